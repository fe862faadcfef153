import PyProof.Rows.All
import Wide.All
import OpenK.AllK
import Wide.FinOn
import HandS.ForMost
import HandS.Zip
import HandS.Wide
import HandS.TupAny
import HandS.TupMul
import HandS.IsInst
import HandS.Deep
import HandS.FStr
import HandS.RaiseMore
import HandS.StrMore
import HandS.WordsExc
import HandS.Text
import PySem.Challenge.RW_ringbelts_k20_whole_texts_read_back
set_option Elab.async false
set_option linter.all false
set_option maxRecDepth 100000
set_option autoImplicit false
set_option maxHeartbeats 1000000
/-! MiT: enumerate of a tuple -/
namespace Mi
open PySem PySem.Spec L2
open PyProof.Rows (envOfC)
section
open PySem.Sem (wp)
theorem Draws_tuple {prog : Program} {w : World} {A : Around} (hh : A.handled = none) (it l : Addr) (hne : l ≠ it) (items : Array Value) :
    Draws prog w A it [it, l] items.size (fun i v => items[i]? = some v) (fun i h => h.IsTupleIter it l i ∧ h.IsTuple l items) where
  live := fun _ _ st => by obtain ⟨⟨o, ho, _⟩, _⟩ := st; exact ⟨o, ho⟩
  frame := fun i h h' st hk => by
    obtain ⟨h1, ⟨o, ho, r⟩⟩ := st
    exact ⟨h1.at fun o e => hk it (by simp) o e, ⟨o, hk l (by simp) o ho, r⟩⟩
  item := fun i s Q E hi st hQ => by
    refine RZ.nextOf_tuple_item st.1 st.2 (x := items[i]) (by simp [hi]) fun h' hit' hs' => ?_
    refine hQ _ h' s.toks (by simp [hi]) ⟨hit', ?_⟩ hs'
    obtain ⟨o, ho, r⟩ := st.2
    exact ⟨o, hs'.extBut _ _ hne ho, r⟩
  done := fun s Q E st hE => RZ.nextOf_tuple_end hh st.1 st.2 (by simp) hE
theorem meets_enumerate_newT (l : Addr) (items : Array Value) :
    Meets (Builtin.«enumerate.__new__» ⟨[.type "enumerate", .ref l], []⟩) (fun _ R s => s.heap.IsTuple l items ∧
      R (.ok (.ret (.ref (s.heap.push { cls := .type "tuple_iterator", data := .fields #[.ref l, .int 0 0] }).objs.size)))
        { s with heap := (s.heap.push { cls := .type "tuple_iterator", data := .fields #[.ref l, .int 0 0] }).push { cls := .type "enumerate", data := .fields #[.none, .bool false, .ref s.heap.objs.size, rawInt 0, .none, .none] } }) :=
  .of_wp fun prog w A R s h => by
    obtain ⟨hp, g, d, tk, os⟩ := s; obtain ⟨hl, h⟩ := h
    have hsub := sub_enumerate
    have hL : Heap.IsTuple (Shared.heap ⟨hp, g, d, tk, os⟩) l items := hl
    obtain ⟨ol, hol, hcl, nl, hdl⟩ := hl
    obtain ⟨cl, dct, dt, sl⟩ := ol
    replace hcl : cl = .type "tuple" := hcl
    replace hdl : dt = .seq items nl := hdl
    subst hcl hdl
    wp_walk using AutoSeq1.wpAny_loadPart' hol
    refine wpAny_stack_any fun st => wpAny_pure ?_
    split
    · rename_i c _ _ _ _ _
      cases (c == Value.type "enumerate")
      · wp_walk using AutoSeq1.wpAny_loadPart' hol, wpAny_pyIter_tuple hL
        exact ⟨_, rfl, h⟩
      · wp_walk using AutoSeq1.wpAny_loadPart' hol, wpAny_pyIter_tuple hL
        exact ⟨_, rfl, h⟩
    · wp_walk using AutoSeq1.wpAny_loadPart' hol, wpAny_pyIter_tuple hL
      exact ⟨_, rfl, h⟩
section
variable {prog : Program} {w : World} {A : Around} {E : Value → Shared → Prop} {s : Shared}
theorem call_enumerate_tuple {l : Addr} {items : Array Value} {Q : Value → Shared → Prop} (hL : s.heap.IsTuple l items)
    (h : ∀ h', IsEnum h' (s.heap.objs.size + 1) s.heap.objs.size 0 .none → h'.IsTupleIter s.heap.objs.size l 0 → h'.objs.size = s.heap.objs.size + 2 →
      (∀ b o, s.heap.get? b = some o → h'.get? b = some o) → Q (.ref (s.heap.objs.size + 1)) { s with heap := h' }) :
    wpAny (model prog w) A (call (.type "enumerate") [.ref l]) Q E s := by
  refine callType_new F.called_enumerate (by decide) (F.typeCall_enumerate_1 _) (F.newCall_enumerate_1 _) (fun obj => F.args_object_init_2 obj _) F.entry_enumerate_new
    (meets_enumerate_newT l items) ⟨hL, ?_⟩
  have hz : (s.heap.push { cls := .type "tuple_iterator", data := .fields #[.ref l, .int 0 0] }).objs.size = s.heap.objs.size + 1 := Heap.size_push ..
  show _ ∧ _
  rw [hz]
  have he : IsEnum ((s.heap.push { cls := .type "tuple_iterator", data := .fields #[.ref l, .int 0 0] }).push
      { cls := .type "enumerate", data := .fields #[.none, .bool false, .ref s.heap.objs.size, rawInt 0, .none, .none] }) (s.heap.objs.size + 1) s.heap.objs.size 0 .none := by
    have := Heap.get?_push_size (s.heap.push { cls := .type "tuple_iterator", data := .fields #[.ref l, .int 0 0] })
      (o := { cls := .type "enumerate", data := .fields #[.none, .bool false, .ref s.heap.objs.size, rawInt 0, .none, .none] }) rfl
    rw [hz] at this; exact this
  refine ⟨⟨_, he, rfl⟩, h _ he ⟨_, Heap.get?_push_of_some _ (Heap.get?_push_size _ rfl), rfl, rfl⟩ (by rw [Heap.size_push, hz]) fun b o x => Heap.get?_push_of_some _ (Heap.get?_push_of_some _ x)⟩
end
end
def ItenT (K : PySem.W.Frag) (a : Addr) : It :=
  ⟨fun i H => ∃ (xs : List V) (x : V), SqT K H a xs ∧ xs[i]? = some x, fun i H v H' => ∃ T x, v = .ref T ∧ H T = none ∧ H' = upd H T (.tup [.int (i : Nat), x]) ∧ ∀ xs, SqT K H a xs → xs[i]? = some x, fun i H => ∃ xs : List V, SqT K H a xs ∧ xs.length ≤ i⟩
theorem turn_enumT {P : Program} {w : World} {K : PySem.W.Frag} {elts : List Expr} {kk : Nat} {tpos : Pos} (a e it : Addr) :
    Turn P w K (.Tuple elts kk tpos) (ItenT K a) [e, it] e (fun i h => (∃ old, IsEnum h e it ((i : Nat) : Int) old) ∧ h.IsTupleIter it a i ∧ e ≠ it) where
  mem := by simp
  obj := fun i h st b hb => by
    obtain ⟨⟨old, he⟩, ⟨o, ho, hc, hd⟩, _⟩ := st
    have e' : b = e ∨ b = it := by simpa using hb
    rcases e' with z | z
    · rw [z]; exact ⟨_, he, fun v q => nomatch q⟩
    · rw [z]; exact ⟨o, ho, fun v q => by rw [hd] at q; cases q⟩
  keep := fun i h h' st k => let ⟨⟨old, he⟩, hi, hne⟩ := st; ⟨⟨old, k e (by simp) _ he⟩, hi.at fun o q => k it (by simp) o q, hne⟩
  item := by
    intro X hP hw hK hc i pins s σ H E I hf st hg
    subst hP hw hK
    obtain ⟨⟨old, he⟩, hit, hne⟩ := st
    obtain ⟨xs, x, hq, hx⟩ := hg
    obtain ⟨its, rv, p, hz⟩ := I.tuple hq
    obtain ⟨u, hu, ru⟩ := rv.get hx
    have p' : s.heap.IsTuple a its.toArray := p
    have hel : e < s.heap.objs.size := Heap.lt_size he
    have hil : it < s.heap.objs.size := by obtain ⟨_, q, _⟩ := hit; exact Heap.lt_size q
    have hai : a ≠ it := by
      rintro rfl
      obtain ⟨o, ho, _, hd⟩ := hit
      obtain ⟨o', ho', _, n', hd'⟩ := p'
      rw [ho] at ho'; cases ho'; rw [hd] at hd'; cases hd'
    have hae : a ≠ e := by
      rintro rfl
      obtain ⟨o', ho', _, n', hd'⟩ := p'
      have he' : s.heap.get? a = _ := he
      rw [he'] at ho'; cases ho'; cases hd'
    have hi : i < its.toArray.size := by
      have hl := rv.length
      have h2 : i < xs.length := (List.getElem?_eq_some_iff.mp hx).1
      rw [List.size_toArray]; omega
    refine wpAny_pyNext_enum_itemD (Draws_tuple (A := X.A.in1) (by exact I.ok.hd hc) it a hai its.toArray) he ⟨hit, p'⟩ hi hne (by simp; exact ⟨hne, Ne.symm hae⟩) fun y h' tk hy ho st' hT hsz hk => ?_
    have ey : y = u := by
      have h1 : its.toArray[i]? = some u := by simpa using hu
      exact Option.some.inj (hy.symm.trans h1)
    subst ey
    refine ⟨_, rfl, wpAny_letOwnedTupleGo_enum (s := { s with heap := h', toks := tk + 1 }) ho fun h'' he' sb => ?_⟩
    have hT2 : h''.get? s.heap.objs.size = some { cls := .type "tuple", data := .seq #[.int i tk, y] } := (sb.2 _ (Nat.ne_of_gt hel)).trans hT
    have new : ObjOk X.prog X.w (upd H s.heap.objs.size (.tup [.int (i : Nat), x])) h'' s.heap.objs.size (.tup [.int (i : Nat), x]) :=
      ⟨by show 2 ≤ sizeLine; decide, [.int i tk, y], .cons ⟨_, rfl⟩ (.cons ru .nil), ⟨_, hT2, rfl, _, rfl⟩⟩
    have I1 : Inv X pins σ (upd H s.heap.objs.size (.tup [.int (i : Nat), x])) { s with heap := h'', toks := tk + 1 } :=
      I.turnedNew (ch := [e, it]) (fun b ob hb q => (sb.2 b (fun z => hb (by simp [z]))).trans (hk b ob (fun z => hb (by simp [z])) (fun z => hb (by simp [z])) q)) hf (Nat.le_refl _) new
    refine ⟨.ref s.heap.objs.size, _, I1, rfl, ⟨_, x, rfl, I.hok.fresh (Nat.le_refl _), rfl, fun ys hy => by rw [I.tuple_inj hy hq]; exact hx⟩, ⟨⟨y, ?_⟩, st'.1.at fun o q => (sb.2 it (Ne.symm hne)).trans q, hne⟩, fun b hb => ?_⟩
    · have e1 : ((i + 1 : Nat) : Int) = (i : Int) + 1 := by omega
      rw [e1]; exact he'
    · have hb' : b < s.heap.objs.size := by
        have e' : b = e ∨ b = it := by simpa using hb
        rcases e' with z | z
        · rw [z]; exact hel
        · rw [z]; exact hil
      rw [upd_ne (Nat.ne_of_lt hb')]
      exact (hf b hb).1
  done := by
    intro X hP hw hK hc i pins s σ H E I hf st hg
    subst hP hw hK
    obtain ⟨⟨old, he⟩, hit, hne⟩ := st
    obtain ⟨xs, hq, hx⟩ := hg
    obtain ⟨its, rv, p, hz⟩ := I.tuple hq
    have p' : s.heap.IsTuple a its.toArray := p
    obtain ⟨f0, f1, f2, f3, f4, f5⟩ := hf it (by simp)
    have hl := rv.length
    have hT : s.TypeIs (.ref e) "enumerate" := ⟨_, he, rfl⟩
    unfold pyNext
    refine wpAny_bind (wpAny_attempt (wpAny_callSpecial?_slot (name := Str.ofString "__next__") hT F.slot_enumerate_next
      (wpAny_call_entry F.slot_enumerate_next hT F.entry_enumerate_next ?_ (F.args_enumerate_next_1 _))))
    show wpAny _ _ (field (.ref e) 2 >>= _) _ _ _
    refine wpAny_bind (wpAny_field he rfl (x := .ref it) rfl ?_)
    refine wpAny_bind (RZ.nextOf_tuple_end (A := X.A.in1) (by exact I.ok.hd hc) hit p' (by simp; omega) fun h' x he' hx' => ?_)
    obtain ⟨o, ho, hc'⟩ := hx'
    refine wpAny_bind (wpAny_isInstance (T := "StopIteration") (b := true) ⟨o, ho, hc'⟩ isSubtype_stop ?_)
    exact wpAny_pure ⟨rfl, I.turned (t' := s.toks) (fun b o hb q => he' b o hb q) f0 f1 f3 f4 f5⟩
  self := fun A i s Q E st h => let ⟨⟨_, he⟩, _⟩ := st; wpAny_pyIter_enum he h
def iEnumA (K : PySem.W.Frag) (ta : TA) : TI := fun σ H R => ta σ H fun vs H1 => (∃ a xs, vs = [.ref a] ∧ SqL K H1 a xs ∧ R (Ite K a) H1) ∨ ∃ a xs, vs = [.ref a] ∧ SqT K H1 a xs ∧ R (ItenT K a) H1
theorem pi_enumA {X : Cx} {e : Expr} {ta : TA} {p pos tpos : Pos} {elts : List Expr} {kk : Nat} (hg : Gl X "enumerate") (hm : X.mg "enumerate" = none) (ha : PA X [e] ta) (hs : starEach [e] X.env = [(false, eval e X.env)] := by rfl) :
    PI X (.Tuple elts kk tpos) (.Call (.Name "enumerate" p) [e] [] pos) (iEnumA X.K ta) := by
  refine ⟨fun pins s σ H R I h => ?_⟩
  refine PyProof.Rows.Call_ (ld_blt I hg hm PyProof.Rows.boot_enumerate (PyProof.Rows.callWith_type1 (thn (ha.run pos pins s σ H _ I h) fun us s1 ⟨vs, H1, I1, r1, q1⟩ => ?_) hs rfl))
  rcases q1 with ⟨a, xs, ex, hq, q⟩ | ⟨a, xs, ex, hq, q⟩
  · subst ex
    cases r1 with
    | cons r rr =>
      cases rr
      cases r
      obtain ⟨its, rv, p', hz⟩ := I1.list hq
      refine call_enumerate_list p'.isList fun h' he hit hsz hk => wpAny_pyIter_enum he ?_
      have I2 : Inv X pins σ H1 { s1 with heap := h' } := I1.kept (t' := s1.toks) hk
      refine ⟨s1.heap.objs.size + 1, [s1.heap.objs.size + 1, s1.heap.objs.size], _, _, H1, rfl, I2, turn_enum a (s1.heap.objs.size + 1) s1.heap.objs.size, ⟨⟨.none, he⟩, hit, Nat.succ_ne_self _⟩, fun b hb => ?_, q⟩
      have e' : b = s1.heap.objs.size + 1 ∨ b = s1.heap.objs.size := by simpa using hb
      have hle : s1.heap.objs.size ≤ b := by
        rcases e' with z | z
        · rw [z]; exact Nat.le_add_right _ _
        · rw [z]; exact Nat.le_refl _
      exact I1.fpOk hle (I1.hok.fresh hle)
  · subst ex
    cases r1 with
    | cons r rr =>
      cases rr
      cases r
      obtain ⟨its, rv, p', hz⟩ := I1.tuple hq
      refine call_enumerate_tuple p' fun h' he hit hsz hk => wpAny_pyIter_enum he ?_
      have I2 : Inv X pins σ H1 { s1 with heap := h' } := I1.kept (t' := s1.toks) hk
      refine ⟨s1.heap.objs.size + 1, [s1.heap.objs.size + 1, s1.heap.objs.size], _, _, H1, rfl, I2, turn_enumT a (s1.heap.objs.size + 1) s1.heap.objs.size, ⟨⟨.none, he⟩, hit, Nat.succ_ne_self _⟩, fun b hb => ?_, q⟩
      have e' : b = s1.heap.objs.size + 1 ∨ b = s1.heap.objs.size := by simpa using hb
      have hle : s1.heap.objs.size ≤ b := by
        rcases e' with z | z
        · rw [z]; exact Nat.le_add_right _ _
        · rw [z]; exact Nat.le_refl _
      exact I1.fpOk hle (I1.hok.fresh hle)
end Mi
set_option Elab.async false
set_option linter.all false
set_option maxRecDepth 100000
set_option autoImplicit false
/-! Mi1: data, frames of slots, the relation of a mini state to an abstract heap -/
namespace Mi
open PySem PySem.Spec L2
abbrev D := PyData

/-! ### monotony of Dp -/
theorem rd_mono {F F' : Hp} {a : Addr} {u : HO} (s : Same F F') (h : Rd F a u) : Rd F' a u := by
  rcases h with h | ⟨o, h⟩
  · exact .inl (s _ _ h)
  · exact .inr ⟨o, s _ _ h⟩
theorem sqL_mono {K : PySem.W.Frag} {F F' : Hp} {a : Addr} {xs : List V} (s : Same F F') (h : SqL K F a xs) : SqL K F' a xs := s.seq h
theorem sqT_mono {K : PySem.W.Frag} {F F' : Hp} {a : Addr} {xs : List V} (s : Same F F') (h : SqT K F a xs) : SqT K F' a xs := by
  rcases h with h | h
  · exact .inl (rd_mono s h)
  · exact .inr h
mutual
theorem dp_mono {K : PySem.W.Frag} {F F' : Hp} (s : Same F F') : ∀ {v : V} {d : D}, Dp K F v d → Dp K F' v d
  | _, _, .non => .non
  | _, _, .bl b => .bl b
  | _, _, .int i => .int i
  | _, _, .str x => .str x
  | _, _, .lst h r => .lst (sqL_mono s h) (dpAll_mono s r)
  | _, _, .tup h r => .tup (sqT_mono s h) (dpAll_mono s r)
theorem dpAll_mono {K : PySem.W.Frag} {F F' : Hp} (s : Same F F') : ∀ {vs : List V} {ds : List D}, DpAll K F vs ds → DpAll K F' vs ds
  | _, _, .nil => .nil
  | _, _, .cons h r => .cons (dp_mono s h) (dpAll_mono s r)
end
theorem dpAll_len {K : PySem.W.Frag} {F : Hp} : ∀ {vs : List V} {ds : List D}, DpAll K F vs ds → vs.length = ds.length
  | _, _, .nil => rfl
  | _, _, .cons _ r => by rw [List.length_cons, List.length_cons, dpAll_len r]
theorem dpAll_get {K : PySem.W.Frag} {F : Hp} : ∀ {vs : List V} {ds : List D} {i : Nat} {d : D}, DpAll K F vs ds → ds[i]? = some d → ∃ v, vs[i]? = some v ∧ Dp K F v d
  | _, _, _, _, .nil, e => by simp at e
  | _, _, 0, d, .cons h _, e => by
    have e' := Option.some.inj e
    subst e'
    exact ⟨_, rfl, h⟩
  | _, _, i + 1, d, .cons _ r, e => by
    obtain ⟨v, h1, h2⟩ := dpAll_get (i := i) r (by simpa using e)
    exact ⟨v, by simpa using h1, h2⟩
theorem dpAll_app {K : PySem.W.Frag} {F : Hp} : ∀ {vs ws : List V} {ds es : List D}, DpAll K F vs ds → DpAll K F ws es → DpAll K F (vs ++ ws) (ds ++ es)
  | _, _, _, _, .nil, h => h
  | _, _, _, _, .cons h r, q => .cons h (dpAll_app r q)
theorem dpAll_take {K : PySem.W.Frag} {F : Hp} : ∀ (n : Nat) {vs : List V} {ds : List D}, DpAll K F vs ds → DpAll K F (vs.take n) (ds.take n)
  | 0, _, _, _ => .nil
  | _ + 1, _, _, .nil => .nil
  | n + 1, _, _, .cons h r => .cons h (dpAll_take n r)
theorem dpAll_drop {K : PySem.W.Frag} {F : Hp} : ∀ (n : Nat) {vs : List V} {ds : List D}, DpAll K F vs ds → DpAll K F (vs.drop n) (ds.drop n)
  | 0, _, _, r => r
  | _ + 1, _, _, .nil => .nil
  | n + 1, _, _, .cons _ r => dpAll_drop n r
theorem dpAll_set {K : PySem.W.Frag} {F : Hp} {v : V} {d : D} (h : Dp K F v d) : ∀ (i : Nat) {vs : List V} {ds : List D}, DpAll K F vs ds → DpAll K F (vs.set i v) (ds.set i d)
  | _, _, _, .nil => .nil
  | 0, _, _, .cons _ r => .cons h r
  | i + 1, _, _, .cons q r => .cons q (dpAll_set h i r)
theorem dpAll_erase {K : PySem.W.Frag} {F : Hp} : ∀ (i : Nat) {vs : List V} {ds : List D}, DpAll K F vs ds → DpAll K F (vs.eraseIdx i) (ds.eraseIdx i)
  | _, _, _, .nil => .nil
  | 0, _, _, .cons _ r => r
  | i + 1, _, _, .cons q r => .cons q (dpAll_erase i r)
theorem dpAll_rev {K : PySem.W.Frag} {F : Hp} : ∀ {vs : List V} {ds : List D}, DpAll K F vs ds → DpAll K F vs.reverse ds.reverse
  | _, _, .nil => .nil
  | _, _, .cons h r => by
    rw [List.reverse_cons, List.reverse_cons]
    exact dpAll_app (dpAll_rev r) (.cons h .nil)
theorem dpAll_dropLast {K : PySem.W.Frag} {F : Hp} {vs : List V} {ds : List D} (h : DpAll K F vs ds) : DpAll K F vs.dropLast ds.dropLast := by
  rw [List.dropLast_eq_take, List.dropLast_eq_take, dpAll_len h]
  exact dpAll_take _ h

/-! ### slots -/
inductive Sl where
  | un | val (d : D) | own (d : D) | mu (d : D) | lent
abbrev Fr := List Sl
def Sl.loc : Sl → Option D
  | .own d => some d
  | .mu d => some d
  | _ => none
/-- what stands at slot i's own address, if it has one -/
def locAt (en : Fr) (i : Nat) : Option D := en[i]?.bind Sl.loc
/-- hide what S names -/
noncomputable def hide (H : Hp) (S : Addr → Prop) : Hp := fun a => open Classical in if S a then none else H a
theorem hide_out {H : Hp} {S : Addr → Prop} {a : Addr} (h : ¬ S a) : hide H S a = H a := by unfold hide; rw [if_neg h]
theorem hide_in {H : Hp} {S : Addr → Prop} {a : Addr} (h : S a) : hide H S a = none := by unfold hide; rw [if_pos h]
theorem hide_some {H : Hp} {S : Addr → Prop} {a : Addr} {o : HO} (h : hide H S a = some o) : ¬ S a ∧ H a = some o := by
  by_cases c : S a
  · rw [hide_in c] at h; cases h
  · rw [hide_out c] at h; exact ⟨c, h⟩
theorem hide_same {H : Hp} {S : Addr → Prop} : Same (hide H S) H := fun _ _ h => (hide_some h).2
theorem hide_mono {H H' : Hp} {S S' : Addr → Prop} (s : ∀ a o, ¬ S a → H a = some o → H' a = some o) (h : ∀ a, S' a → S a ∨ H a = none) : Same (hide H S) (hide H' S') := fun a o e => by
  obtain ⟨n, e⟩ := hide_some e
  rw [hide_out (fun c => (h a c).elim n fun z => by rw [e] at z; cases z)]
  exact s a o n e
/-- what is fixed through a piece of code: the heap that stands (less the places that may change), the places of the parameters that may change, lists that lie beside and that nothing here knows -/
structure Bs where
  B : Hp
  ma : Nat → Addr
  xh : Addr → Prop
  xc : Addr → List V
def Hid (b : Bs) (en : Fr) (oa : Nat → Addr) (a : Addr) : Prop := b.xh a ∨ ∃ i d, locAt en i = some d ∧ oa i = a
noncomputable abbrev Frz (b : Bs) (H : Hp) (en : Fr) (oa : Nat → Addr) : Hp := hide H (Hid b en oa)

theorem frz_out {b : Bs} {H : Hp} {en : Fr} {oa : Nat → Addr} {a : Addr} (h : ¬ Hid b en oa a) : Frz b H en oa a = H a := hide_out h
theorem frz_in {b : Bs} {H : Hp} {en : Fr} {oa : Nat → Addr} {a : Addr} (h : Hid b en oa a) : Frz b H en oa a = none := hide_in h
/-- contents of an own place -/
def Cont (K : PySem.W.Frag) (F H : Hp) (a : Addr) : D → Prop
  | .list ds => ∃ vs, H a = some (.lst vs) ∧ DpAll K F vs ds
  | _ => False
theorem Cont.there {K : PySem.W.Frag} {F H : Hp} {a : Addr} {d : D} (h : Cont K F H a d) : ∃ o, H a = some o := by
  cases d with
  | list ds => obtain ⟨vs, e, _⟩ := h; exact ⟨_, e⟩
  | _ => exact h.elim
theorem Cont.mono {K : PySem.W.Frag} {F F' H H' : Hp} {a : Addr} {d : D} (h : Cont K F H a d) (s : Same F F') (e : ∀ o, H a = some o → H' a = some o) : Cont K F' H' a d := by
  cases d with
  | list ds => obtain ⟨vs, e', r⟩ := h; exact ⟨vs, e _ e', dpAll_mono s r⟩
  | _ => exact h.elim

structure Sim (K : PySem.W.Frag) (b : Bs) (oa : Nat → Addr) (σ : St) (H : Hp) (en : Fr) : Prop where
  len : σ.length = en.length
  val : ∀ (i : Nat) (d : D), en[i]? = some (.val d) → ∃ v, σ[i]? = some (some v) ∧ Dp K (Frz b H en oa) v d
  loc : ∀ (i : Nat) (d : D), locAt en i = some d → σ[i]? = some (some (.ref (oa i))) ∧ Cont K (Frz b H en oa) H (oa i) d
  inj : ∀ (i j : Nat) (d e : D), locAt en i = some d → locAt en j = some e → oa i = oa j → i = j
  base : Same b.B (Frz b H en oa)
  muA : ∀ (i : Nat) (d : D), en[i]? = some (.mu d) → oa i = b.ma i
  xl : ∀ a, b.xh a → H a = some (.lst (b.xc a))
  xo : ∀ (i : Nat) (d : D), locAt en i = some d → ¬ b.xh (oa i)
  lnt : ∀ (i : Nat), en[i]? = some .lent → σ[i]? = some (some (.ref (b.ma i)))
/-- from H, en to H', en': what is known to stand stands; what lies beside too -/
structure Ext (b : Bs) (oa : Nat → Addr) (H : Hp) (en : Fr) (H' : Hp) (en' : Fr) : Prop where
  same : Same (Frz b H en oa) (Frz b H' en' oa)
  xk : ∀ a, b.xh a → H' a = H a
theorem Ext.refl {b : Bs} {oa : Nat → Addr} {H : Hp} {en : Fr} : Ext b oa H en H en := ⟨Same.refl _, fun _ _ => rfl⟩
theorem Ext.trans {b : Bs} {oa : Nat → Addr} {H H1 H2 : Hp} {en en1 en2 : Fr} (x : Ext b oa H en H1 en1) (y : Ext b oa H1 en1 H2 en2) : Ext b oa H en H2 en2 := ⟨x.same.trans y.same, fun a h => (y.xk a h).trans (x.xk a h)⟩

section
variable {K : PySem.W.Frag} {b : Bs} {oa : Nat → Addr} {σ : St} {H H' : Hp} {en : Fr}
theorem Sim.lstAt (s : Sim K b oa σ H en) {a : Addr} (h : Hid b en oa a) : ∃ xs, H a = some (.lst xs) := by
  rcases h with h | ⟨i, d, h, rfl⟩
  · exact ⟨_, s.xl a h⟩
  · obtain ⟨_, c⟩ := s.loc i d h
    cases d with
    | list ds => obtain ⟨vs, e, _⟩ := c; exact ⟨vs, e⟩
    | _ => exact c.elim
theorem Sim.unhid (s : Sim K b oa σ H en) {a : Addr} (h : H a = none) : ¬ Hid b en oa a := fun z => by
  obtain ⟨o, e⟩ := s.lstAt z
  rw [h] at e; cases e
theorem frz_mono (s : Same H H') : Same (Frz b H en oa) (Frz b H' en oa) := hide_mono (fun a o _ e => s a o e) fun a h => .inl h
theorem Sim.mono (s : Sim K b oa σ H en) (m : Same H H') : Sim K b oa σ H' en where
  len := s.len
  val := fun i d e => by
    obtain ⟨v, h1, h2⟩ := s.val i d e
    exact ⟨v, h1, dp_mono (frz_mono m) h2⟩
  loc := fun i d e => ⟨(s.loc i d e).1, (s.loc i d e).2.mono (frz_mono m) fun o q => m _ _ q⟩
  inj := s.inj
  base := s.base.trans (frz_mono m)
  muA := s.muA
  xl := fun a h => m _ _ (s.xl a h)
  xo := s.xo
  lnt := s.lnt
theorem same_upd {p : Addr} {o : HO} (h : H p = none) : Same H (upd H p o) := fun a u e => by
  rw [upd_ne (ne_of_none e h)]; exact e
/-- something new beside -/
theorem Sim.ext_new (s : Sim K b oa σ H en) {p : Addr} {o : HO} (h : H p = none) : Ext b oa H en (upd H p o) en := ⟨frz_mono (same_upd h), fun a z => by
  rw [upd_ne (ne_of_none (s.xl a z) h)]⟩
end

/-! ### results -/
/-- a value (fr: a new list that nothing else knows), or the thing at a slot's own place -/
inductive RV where
  | val (d : D) (fr : Bool) | loc (i : Nat)
structure Exc where
  cls : Str
  fld : D
inductive Res (α : Type) where
  | ok (a : α) (en : Fr) | exc (x : Exc) (en : Fr) | err
def Res.bind {α β : Type} (r : Res α) (g : α → Fr → Res β) : Res β := match r with
  | .ok a en => g a en
  | .exc x en => .exc x en
  | .err => .err
abbrev M (α : Type) := Fr → Res α
/-- what a result is, as data, now -/
def rvD (en : Fr) : RV → Option D
  | .val d _ => some d
  | .loc i => locAt en i

def RvOk (K : PySem.W.Frag) (b : Bs) (oa : Nat → Addr) (H : Hp) (en : Fr) (v : V) : RV → Prop
  | .val d _ => Dp K (Frz b H en oa) v d
  | .loc i => v = .ref (oa i)
/-- behind an expression: from H and en to H' and en' with the value v -/
def Aft (K : PySem.W.Frag) (b : Bs) (oa : Nat → Addr) (σ : St) (H : Hp) (en : Fr) (v : V) (H' : Hp) (r : RV) (en' : Fr) : Prop :=
  match r with
  | .val d true => ∃ G p vs ds, v = .ref p ∧ d = .list ds ∧ G p = none ∧ H' = upd G p (.lst vs) ∧ Sim K b oa σ G en' ∧ Ext b oa H en G en' ∧ DpAll K (Frz b G en' oa) vs ds
  | r => Sim K b oa σ H' en' ∧ Ext b oa H en H' en' ∧ RvOk K b oa H' en' v r
section
variable {K : PySem.W.Frag} {b : Bs} {oa : Nat → Addr} {σ : St} {H H' : Hp} {en en' : Fr} {v : V} {r : RV}
/-- a new list, looked at as any value -/
theorem Aft.plain (h : Aft K b oa σ H en v H' r en') : Sim K b oa σ H' en' ∧ Ext b oa H en H' en' ∧ RvOk K b oa H' en' v r := by
  unfold Aft at h
  split at h
  · rename_i d
    obtain ⟨G, p, vs, ds, rfl, rfl, hp, rfl, sim, ext, r⟩ := h
    have m : Same G (upd G p (.lst vs)) := same_upd hp
    have up : Frz b (upd G p (.lst vs)) en' oa p = some (.lst vs) := by
      rw [frz_out (sim.unhid hp), upd_same]
    exact ⟨sim.mono m, ext.trans (sim.ext_new hp), .lst (.inl (.inl up)) (dpAll_mono (frz_mono m) r)⟩
  · exact h
theorem Aft.weak {d : D} {fr : Bool} (h : Aft K b oa σ H en v H' (.val d fr) en') : Aft K b oa σ H en v H' (.val d false) en' := h.plain
/-- the first step ahead -/
theorem Aft.from {H0 : Hp} {en0 : Fr} (s : Ext b oa H0 en0 H en) (h : Aft K b oa σ H en v H' r en') : Aft K b oa σ H0 en0 v H' r en' := by
  unfold Aft at h ⊢
  split at h
  · obtain ⟨G, p, vs, ds, e1, e2, hp, e3, sim, ext, r⟩ := h
    exact ⟨G, p, vs, ds, e1, e2, hp, e3, sim, s.trans ext, r⟩
  · exact ⟨h.1, s.trans h.2.1, h.2.2⟩
theorem RvOk.ext {H2 : Hp} {en2 : Fr} (h : RvOk K b oa H en v r) (s : Ext b oa H en H2 en2) : RvOk K b oa H2 en2 v r := by
  cases r with
  | val d fr => exact dp_mono s.same h
  | loc i => exact h
end

/-- seen by an operator: the top in H, what is in it in F -/
def Top (K : PySem.W.Frag) (F H : Hp) (v : V) : D → Prop
  | .list ds => ∃ a vs, v = .ref a ∧ SqL K H a vs ∧ DpAll K F vs ds
  | d => Dp K F v d
theorem top_of {K : PySem.W.Frag} {b : Bs} {oa : Nat → Addr} {σ : St} {H : Hp} {en : Fr} {v : V} {r : RV} {d : D} (s : Sim K b oa σ H en) (h : RvOk K b oa H en v r) (e : rvD en r = some d) : Top K (Frz b H en oa) H v d := by
  cases r with
  | val d' fr =>
    have e' : d' = d := Option.some.inj e
    subst e'
    have h' : Dp K (Frz b H en oa) v d' := h
    cases d' with
    | list ds => cases h' with | lst q r => exact ⟨_, _, rfl, sqL_mono hide_same q, r⟩
    | _ => exact h'
  | loc i =>
    have h' : v = .ref (oa i) := h
    subst h'
    have q := (s.loc i d e).2
    cases d with
    | list ds => obtain ⟨vs, e', r⟩ := q; exact ⟨_, vs, rfl, .inl (.inl e'), r⟩
    | _ => exact q.elim
theorem Top.dp {K : PySem.W.Frag} {F H : Hp} {v : V} {d : D} (h : Top K F H v d) (s : Same F H) : Dp K H v d := by
  cases d with
  | list ds => obtain ⟨a, vs, rfl, q, r⟩ := h; exact .lst q (dpAll_mono s r)
  | _ => exact dp_mono s h

/-- what an operator leaves -/
def OpAft (K : PySem.W.Frag) (F H : Hp) (v : V) (H' : Hp) : D → Bool → Prop
  | .list ds, true => ∃ p vs, v = .ref p ∧ H p = none ∧ H' = upd H p (.lst vs) ∧ DpAll K F vs ds
  | _, true => False
  | d, false => (H' = H ∧ Dp K F v d) ∨ ∃ p vs ds, d = .tuple ds ∧ v = .ref p ∧ H p = none ∧ H' = upd H p (.tup vs) ∧ DpAll K F vs ds
theorem OpAft.aft {K : PySem.W.Frag} {b : Bs} {oa : Nat → Addr} {σ : St} {H H' : Hp} {en : Fr} {v : V} {d : D} {fr : Bool} (s : Sim K b oa σ H en) (h : OpAft K (Frz b H en oa) H v H' d fr) : Aft K b oa σ H en v H' (.val d fr) en := by
  cases fr with
  | true =>
    cases d with
    | list ds => obtain ⟨p, vs, rfl, hp, rfl, r⟩ := h; exact ⟨H, p, vs, ds, rfl, rfl, hp, rfl, s, Ext.refl, r⟩
    | _ => exact h.elim
  | false =>
    have h' : (H' = H ∧ Dp K (Frz b H en oa) v d) ∨ ∃ p vs ds, d = .tuple ds ∧ v = .ref p ∧ H p = none ∧ H' = upd H p (.tup vs) ∧ DpAll K (Frz b H en oa) vs ds := by
      cases d <;> exact h
    rcases h' with ⟨rfl, q⟩ | ⟨p, vs, ds, rfl, rfl, hp, rfl, r⟩
    · exact ⟨s, Ext.refl, q⟩
    · have m : Same H (upd H p (.tup vs)) := same_upd hp
      have up : Frz b (upd H p (.tup vs)) en oa p = some (.tup vs) := by rw [frz_out (s.unhid hp), upd_same]
      exact ⟨s.mono m, s.ext_new hp, .tup (.inl (.inl up)) (dpAll_mono (frz_mono m) r)⟩
theorem OpAft.scal {K : PySem.W.Frag} {F H : Hp} {v : V} {d : D} (h : Dp K F v d) : OpAft K F H v H d false := by
  cases d <;> exact .inl ⟨rfl, h⟩
theorem OpAft.tup {K : PySem.W.Frag} {F H : Hp} {p : Addr} {vs : List V} {ds : List D} (hp : H p = none) (h : DpAll K F vs ds) : OpAft K F H (.ref p) (upd H p (.tup vs)) (.tuple ds) false := .inr ⟨p, vs, ds, rfl, rfl, hp, rfl, h⟩
theorem OpAft.lst {K : PySem.W.Frag} {F H : Hp} {p : Addr} {vs : List V} {ds : List D} (hp : H p = none) (h : DpAll K F vs ds) : OpAft K F H (.ref p) (upd H p (.lst vs)) (.list ds) true := ⟨p, vs, rfl, hp, rfl, h⟩
end Mi
set_option Elab.async false
set_option linter.all false
set_option maxRecDepth 100000
set_option autoImplicit false
/-! Mi2: readings of expressions from mini computations -/
namespace Mi
open PySem PySem.Spec L2

/-- what is wanted of an error -/
abbrev ZT := Exc → St → Hp → Prop
def tE (K : PySem.W.Frag) (Z : ZT) (f : M RV) : TE := fun σ H Q => ∃ b en oa, Sim K b oa σ H en ∧ match f en with
  | .ok r en' => ∀ v H', Aft K b oa σ H en v H' r en' → Q v H'
  | .exc x en' => ∀ H', Sim K b oa σ H' en' → Z x σ H'
  | .err => False
def tT (K : PySem.W.Frag) (Z : ZT) (f : M Bool) : TT := fun σ H Q => ∃ b en oa, Sim K b oa σ H en ∧ match f en with
  | .ok k en' => ∀ H', Sim K b oa σ H' en' → Ext b oa H en H' en' → Q k H'
  | .exc x en' => ∀ H', Sim K b oa σ H' en' → Z x σ H'
  | .err => False
inductive RvAll (K : PySem.W.Frag) (b : Bs) (oa : Nat → Addr) (H : Hp) (en : Fr) : List V → List RV → Prop
  | nil : RvAll K b oa H en [] []
  | cons {v : V} {r : RV} {vs : List V} {rs : List RV} : RvOk K b oa H en v r → RvAll K b oa H en vs rs → RvAll K b oa H en (v :: vs) (r :: rs)
def tAs (K : PySem.W.Frag) (Z : ZT) (f : M (List RV)) : TA := fun σ H Q => ∃ b en oa, Sim K b oa σ H en ∧ match f en with
  | .ok rs en' => ∀ vs H', Sim K b oa σ H' en' → Ext b oa H en H' en' → RvAll K b oa H' en' vs rs → Q vs H'
  | .exc x en' => ∀ H', Sim K b oa σ H' en' → Z x σ H'
  | .err => False
theorem RvAll.ext {K : PySem.W.Frag} {b : Bs} {oa : Nat → Addr} {H H2 : Hp} {en en2 : Fr} {vs : List V} {rs : List RV} (h : RvAll K b oa H en vs rs) (s : Ext b oa H en H2 en2) : RvAll K b oa H2 en2 vs rs := by
  induction h with
  | nil => exact .nil
  | cons h _ ih => exact .cons (h.ext s) ih
theorem pe_imp {X : Cx} {e : Expr} {t t' : TE} (h : PE X e t) (i : ∀ σ H Q, t' σ H Q → t σ H Q) : PE X e t' := ⟨fun pins s σ H Q I hw => h.run pins s σ H Q I (i σ H Q hw)⟩
theorem pt_imp {X : Cx} {e : Expr} {t t' : TT} (h : PT X e t) (i : ∀ σ H Q, t' σ H Q → t σ H Q) : PT X e t' := ⟨fun pins s σ H Q I hw => h.run pins s σ H Q I (i σ H Q hw)⟩
theorem pw_imp {X : Cx} {e : Expr} {t t' : TT} (h : PW X e t) (i : ∀ σ H Q, t' σ H Q → t σ H Q) : PW X e t' := ⟨fun wh pins s σ H Q I hw => h.run wh pins s σ H Q I (i σ H Q hw)⟩
theorem pa_imp {X : Cx} {e : List Expr} {t t' : TA} (h : PA X e t) (i : ∀ σ H Q, t' σ H Q → t σ H Q) : PA X e t' := ⟨fun pos pins s σ H Q I hw => h.run pos pins s σ H Q I (i σ H Q hw)⟩

/-! ### names, constants -/
def evVar (i : Nat) : M RV := fun en => match en[i]? with
  | some (.val d) => .ok (.val d false) en
  | some (.own _) => .ok (.loc i) en
  | some (.mu _) => .ok (.loc i) en
  | _ => .err
/-- the value of a local list, taken out: nothing else knows it -/
def evTake (i : Nat) : M RV := fun en => match en[i]? with
  | some (.own d) => .ok (.val d true) (en.set i .un)
  | _ => .err
/-- .. left in its slot, but it can't change any more -/
def evFrz (i : Nat) : M RV := fun en => match en[i]? with
  | some (.own d) => .ok (.val d false) (en.set i (.val d))
  | some (.val d) => .ok (.val d false) en
  | _ => .err
def litD : Const → Option D
  | .none => some .none
  | .bool k => some (.bool k)
  | .int i => some (.int i)
  | .str x => some (.str x)
  | _ => none
def evLit (c : Const) : M RV := fun en => match litD c with
  | some d => .ok (.val d false) en
  | none => .err
def evD (d : D) : M RV := fun en => .ok (.val d false) en
section
variable {X : Cx} {K : PySem.W.Frag} {Z : ZT}
theorem locAt_set_un {en : Fr} {i j : Nat} {d : D} {s : Sl} (hs : s.loc = none) (h : locAt (en.set i s) j = some d) : j ≠ i ∧ locAt en j = some d := by
  unfold locAt at h ⊢
  by_cases e : j = i
  · subst e
    rw [List.getElem?_set] at h
    simp only [if_true] at h
    split at h
    · simp [hs] at h
    · simp at h
  · refine ⟨e, ?_⟩
    rw [List.getElem?_set_ne (Ne.symm e)] at h
    exact h
theorem locAt_own {en : Fr} {i : Nat} {d : D} (h : en[i]? = some (.own d)) : locAt en i = some d := by unfold locAt; rw [h]; rfl
theorem locAt_mu {en : Fr} {i : Nat} {d : D} (h : en[i]? = some (.mu d)) : locAt en i = some d := by unfold locAt; rw [h]; rfl
theorem locAt_val {en : Fr} {i : Nat} {d : D} (h : en[i]? = some (.val d)) : locAt en i = none := by unfold locAt; rw [h]; rfl

theorem lent_set {en : Fr} {i j : Nat} {s : Sl} (hs : s ≠ .lent) (h : (en.set i s)[j]? = some .lent) : en[j]? = some .lent := by
  rw [List.getElem?_set] at h
  split at h
  · split at h
    · injection h with h; exact absurd h hs
    · cases h
  · exact h
theorem lent_ne {en : Fr} {i j : Nat} {s : Sl} (hs : s ≠ .lent) (hi : i < en.length) (h : (en.set i s)[j]? = some .lent) : j ≠ i := fun e => by
  rw [e, List.getElem?_set_self hi] at h
  injection h with h; exact hs h
theorem me_var {i : Nat} {x : Str} {pos : Pos} (hN : X.N[i]? = some x) (hv : Vis X.env.scope x) (hd : (x == ("__debug__" : Str)) = false) (hcd : (x == ("__classdict__" : Str)) = false) : PE X (.Name x pos) (tE X.K Z (evVar i)) := by
  refine pe_imp (pe_var hN hv hd hcd) fun σ H Q h => ?_
  obtain ⟨b, en, oa, sim, h⟩ := h
  unfold evVar at h
  split at h
  · rename_i _ e1 e2
    split at e2
    · rename_i d e3
      cases e2
      obtain ⟨v, e4, r⟩ := sim.val i d e3
      exact ⟨v, e4, h v H ⟨sim, Ext.refl, r⟩⟩
    · rename_i d e3
      cases e2
      exact ⟨_, (sim.loc i d (locAt_own e3)).1, h _ H ⟨sim, Ext.refl, rfl⟩⟩
    · rename_i d e3
      cases e2
      exact ⟨_, (sim.loc i d (locAt_mu e3)).1, h _ H ⟨sim, Ext.refl, rfl⟩⟩
    · cases e2
  · rename_i e2
    split at e2 <;> cases e2
  · exact h.elim
theorem me_take {i : Nat} {x : Str} {pos : Pos} (hN : X.N[i]? = some x) (hv : Vis X.env.scope x) (hd : (x == ("__debug__" : Str)) = false) (hcd : (x == ("__classdict__" : Str)) = false) : PE X (.Name x pos) (tE X.K Z (evTake i)) := by
  refine pe_imp (pe_var hN hv hd hcd) fun σ H Q h => ?_
  obtain ⟨b, en, oa, sim, h⟩ := h
  unfold evTake at h
  split at h
  · rename_i _ e1 e2
    split at e2
    · rename_i d e3
      cases e2
      have hl := locAt_own e3
      obtain ⟨e4, c⟩ := sim.loc i d hl
      cases d with
      | list ds =>
        obtain ⟨vs, e5, r⟩ := c
        refine ⟨_, e4, h _ H ?_⟩
        -- the heap without it
        let G : Hp := fun a => if a = oa i then none else H a
        have gp : G (oa i) = none := by show (if oa i = oa i then none else H (oa i)) = none; rw [if_pos rfl]
        have gn : ∀ a, a ≠ oa i → G a = H a := fun a n => by show (if a = oa i then none else H a) = H a; rw [if_neg n]
        have hid' : ∀ a, Hid b (en.set i .un) oa a → a ≠ oa i ∧ Hid b en oa a := fun a z => by
          rcases z with z | ⟨j, d', h1, h2⟩
          · exact ⟨fun q => sim.xo i _ hl (q ▸ z), .inl z⟩
          · obtain ⟨n, h1⟩ := locAt_set_un rfl h1
            exact ⟨fun z => n (sim.inj j i _ _ h1 hl (h2.trans z)), .inr ⟨j, d', h1, h2⟩⟩
        have fz : Frz b G (en.set i .un) oa = Frz b H en oa := by
          funext a
          by_cases ha : a = oa i
          · subst ha
            have hh : Hid b en oa (oa i) := .inr ⟨i, _, hl, rfl⟩
            rw [frz_in hh]
            by_cases q : Hid b (en.set i .un) oa (oa i)
            · rw [frz_in q]
            · rw [frz_out q, gp]
          · by_cases q : Hid b en oa a
            · rw [frz_in q]
              rcases q with q | ⟨j, d', h1, h2⟩
              · exact frz_in (.inl q)
              have n : j ≠ i := fun z => ha (by rw [← h2, z])
              refine frz_in (.inr ⟨j, d', ?_, h2⟩)
              unfold locAt
              rw [List.getElem?_set_ne (Ne.symm n)]
              exact h1
            · rw [frz_out q, frz_out fun z => q (hid' a z).2, gn a ha]
        refine ⟨G, oa i, vs, ds, rfl, rfl, gp, ?_, ?_, ?_, ?_⟩
        · funext a
          by_cases ha : a = oa i
          · subst ha; rw [upd_same]; exact e5
          · rw [upd_ne ha, gn a ha]
        · refine ⟨by rw [sim.len, List.length_set], fun j d' q => ?_, fun j d' q => ?_, fun j j' d' d'' q q' e => ?_, ?_, fun j d' q => ?_, fun a z => ?_, fun j d' q => sim.xo j d' (locAt_set_un rfl q).2, fun j q => sim.lnt j (lent_set (by intro z; cases z) q)⟩
          · rw [List.getElem?_set] at q
            split at q
            · split at q <;> cases q
            · obtain ⟨v, h1, h2⟩ := sim.val j d' q
              rw [fz]
              exact ⟨v, h1, h2⟩
          · obtain ⟨n, q⟩ := locAt_set_un rfl q
            obtain ⟨h1, h2⟩ := sim.loc j d' q
            refine ⟨h1, ?_⟩
            rw [fz]
            exact h2.mono (Same.refl _) fun o z => (gn _ fun z => n (sim.inj j i _ _ q hl z)).trans z
          · exact sim.inj j j' d' d'' (locAt_set_un rfl q).2 (locAt_set_un rfl q').2 e
          · rw [fz]; exact sim.base
          · rw [List.getElem?_set] at q
            split at q
            · split at q <;> cases q
            · exact sim.muA j d' q
          · exact (gn a fun q => sim.xo i _ hl (q ▸ z)).trans (sim.xl a z)
        · exact ⟨by rw [fz]; exact Same.refl _, fun a z => gn a fun q => sim.xo i _ hl (q ▸ z)⟩
        · rw [fz]; exact r
      | _ => exact c.elim
    · cases e2
  · rename_i e2
    split at e2 <;> cases e2
  · exact h.elim
theorem Sim.freeze {b : Bs} {oa : Nat → Addr} {σ : St} {H : Hp} {en : Fr} {i : Nat} {d : D} (sim : Sim K b oa σ H en) (e3 : en[i]? = some (.own d)) :
    Sim K b oa σ H (en.set i (.val d)) ∧ Ext b oa H en H (en.set i (.val d)) ∧ Dp K (Frz b H (en.set i (.val d)) oa) (.ref (oa i)) d := by
  have hl := locAt_own e3
  obtain ⟨e4, c⟩ := sim.loc i d hl
  have sm : Same (Frz b H en oa) (Frz b H (en.set i (.val d)) oa) := hide_mono (fun a o _ e => e) fun a z => .inl (by
    rcases z with z | ⟨j, d', h1, h2⟩
    · exact .inl z
    · exact .inr ⟨j, d', (locAt_set_un rfl h1).2, h2⟩)
  have out : ¬ Hid b (en.set i (.val d)) oa (oa i) := fun z => by
    rcases z with z | ⟨j, d', h1, h2⟩
    · exact sim.xo i _ hl z
    · obtain ⟨n, h1⟩ := locAt_set_un rfl h1
      exact n (sim.inj j i _ _ h1 hl h2)
  have rep : Dp K (Frz b H (en.set i (.val d)) oa) (.ref (oa i)) d := by
    cases d with
    | list ds =>
      obtain ⟨vs, e5, r⟩ := c
      exact .lst (.inl (.inl (by rw [frz_out out]; exact e5))) (dpAll_mono sm r)
    | _ => exact c.elim
  refine ⟨⟨by rw [sim.len, List.length_set], fun j d' q => ?_, fun j d' q => ?_, fun j j' d' d'' q q' e => ?_, sim.base.trans sm, fun j d' q => ?_, sim.xl, fun j d' q => sim.xo j d' (locAt_set_un rfl q).2, fun j q => sim.lnt j (lent_set (by intro z; cases z) q)⟩, ⟨sm, fun _ _ => rfl⟩, rep⟩
  · rw [List.getElem?_set] at q
    split at q
    · rename_i e
      subst e
      split at q
      · cases q
        exact ⟨_, e4, rep⟩
      · cases q
    · obtain ⟨v, h1, h2⟩ := sim.val j d' q
      exact ⟨v, h1, dp_mono sm h2⟩
  · obtain ⟨n, q⟩ := locAt_set_un rfl q
    obtain ⟨h1, h2⟩ := sim.loc j d' q
    exact ⟨h1, h2.mono sm fun o z => z⟩
  · exact sim.inj j j' d' d'' (locAt_set_un rfl q).2 (locAt_set_un rfl q').2 e
  · rw [List.getElem?_set] at q
    split at q
    · split at q <;> cases q
    · exact sim.muA j d' q
theorem me_frz {i : Nat} {x : Str} {pos : Pos} (hN : X.N[i]? = some x) (hv : Vis X.env.scope x) (hd : (x == ("__debug__" : Str)) = false) (hcd : (x == ("__classdict__" : Str)) = false) : PE X (.Name x pos) (tE X.K Z (evFrz i)) := by
  refine pe_imp (pe_var hN hv hd hcd) fun σ H Q h => ?_
  obtain ⟨b, en, oa, sim, h⟩ := h
  unfold evFrz at h
  split at h
  · rename_i _ e1 e2
    split at e2
    · rename_i d e3
      cases e2
      obtain ⟨s1, s2, s3⟩ := sim.freeze e3
      exact ⟨_, (sim.loc i d (locAt_own e3)).1, h _ H ⟨s1, s2, s3⟩⟩
    · rename_i d e3
      cases e2
      obtain ⟨v, e4, r⟩ := sim.val i d e3
      exact ⟨v, e4, h v H ⟨sim, Ext.refl, r⟩⟩
    · cases e2
  · rename_i e2
    split at e2 <;> cases e2
  · exact h.elim
theorem me_lit {c : Const} {j : Nat} {pos : Pos} : PE X (.Constant c j pos) (tE X.K Z (evLit c)) := by
  have key : ∀ {v : V} {d : D}, litD c = some d → (∀ F, Dp X.K F v d) → PE X (.Constant c j pos) (tC v) → PE X (.Constant c j pos) (tE X.K Z (evLit c)) := fun {v d} e r h => by
    refine pe_imp h fun σ H Q h => ?_
    obtain ⟨b, en, oa, sim, h⟩ := h
    unfold evLit at h
    rw [e] at h
    exact h v H ⟨sim, Ext.refl, r _⟩
  cases c with
  | none => exact key rfl (fun _ => .non) pe_non
  | bool k => exact key rfl (fun _ => .bl k) pe_bl
  | int i => exact key rfl (fun _ => .int i) pe_int
  | str x => exact key rfl (fun _ => .str x) pe_str
  | _ => exact ⟨fun _ _ _ _ _ _ h => by
      obtain ⟨b, en, oa, sim, h⟩ := h
      exact h.elim⟩
/-- a constant of the module -/
theorem me_glob {x : Str} {v : V} {u : Value} {d : D} {pos : Pos} (hg : Gl X x) (hm : X.mg x = some u) (r : RelV v u) (hd : (x == ("__debug__" : Str)) = false) (hr : ∀ F, Dp X.K F v d) : PE X (.Name x pos) (tE X.K Z (evD d)) := by
  refine pe_imp (pe_glob hg hm r hd) fun σ H Q h => ?_
  obtain ⟨b, en, oa, sim, h⟩ := h
  exact h v H ⟨sim, Ext.refl, hr _⟩
end

/-! ### operators -/
abbrev G1 := D → Option (D × Bool)
abbrev G2 := D → D → Option (D × Bool)
def fin (en : Fr) : Option (D × Bool) → Res RV
  | some (d, fr) => .ok (.val d fr) en
  | none => .err
def evBin (g : G2) (fa fb : M RV) : M RV := fun en => (fa en).bind fun r1 en1 => (fb en1).bind fun r2 en2 =>
  match rvD en2 r1, rvD en2 r2 with
  | some d1, some d2 => fin en2 (g d1 d2)
  | _, _ => .err
def evUn (g : G1) (fa : M RV) : M RV := fun en => (fa en).bind fun r1 en1 => match rvD en1 r1 with
  | some d1 => fin en1 (g d1)
  | none => .err
def Op1 (K : PySem.W.Frag) (r : V → Hp → VK → Prop) (g : G1) : Prop := ∀ (F H : Hp) (v1 : V) (d1 d : D) (fr : Bool) (Q : VK), Same F H → Top K F H v1 d1 → g d1 = some (d, fr) → (∀ v H', OpAft K F H v H' d fr → Q v H') → r v1 H Q
def Op2 (K : PySem.W.Frag) (r : R2) (g : G2) : Prop := ∀ (F H : Hp) (v1 v2 : V) (d1 d2 d : D) (fr : Bool) (Q : VK), Same F H → Top K F H v1 d1 → Top K F H v2 d2 → g d1 d2 = some (d, fr) → (∀ v H', OpAft K F H v H' d fr → Q v H') → r v1 v2 H Q
section
variable {X : Cx} {K : PySem.W.Frag} {Z : ZT} {fa fb fc : M RV}
theorem fin_ok {b : Bs} {oa : Nat → Addr} {σ : St} {H : Hp} {en : Fr} {o : Option (D × Bool)} {Q : VK} {P : Prop} (sim : Sim K b oa σ H en)
    (h : match fin en o with
      | .ok r en' => ∀ v H', Aft K b oa σ H en v H' r en' → Q v H'
      | .exc x en' => ∀ H', Sim K b oa σ H' en' → Z x σ H'
      | .err => False) (k : ∀ d fr, o = some (d, fr) → (∀ v H', OpAft K (Frz b H en oa) H v H' d fr → Q v H') → P) : P := by
  cases o with
  | none => exact h.elim
  | some p =>
    obtain ⟨d, fr⟩ := p
    exact k d fr rfl fun v H' q => h v H' (q.aft sim)
/-- two operands, then what follows by values -/
theorem two_ok {σ : St} {H : Hp} {Q : VK} {R : V → V → Hp → Prop} {g : G2} (h : tE K Z (evBin g fa fb) σ H Q)
    (k : ∀ (F H2 : Hp) (v1 v2 : V) (d1 d2 d : D) (fr : Bool), Same F H2 → Top K F H2 v1 d1 → Top K F H2 v2 d2 → g d1 d2 = some (d, fr) → (∀ v H', OpAft K F H2 v H' d fr → Q v H') → R v1 v2 H2) :
    tE K Z fa σ H fun x H1 => tE K Z fb σ H1 fun y H2 => R x y H2 := by
  obtain ⟨b, en, oa, sim, h⟩ := h
  refine ⟨b, en, oa, sim, ?_⟩
  unfold evBin at h
  cases e1 : fa en with
  | err => rw [e1] at h; exact h.elim
  | exc x en1 => rw [e1] at h; exact h
  | ok r1 en1 =>
    rw [e1] at h
    intro x H1 a1
    obtain ⟨sim1, ext1, rv1⟩ := a1.plain
    refine ⟨b, en1, oa, sim1, ?_⟩
    cases e2 : fb en1 with
    | err => simp only [Res.bind, e2] at h
    | exc x en2 => simp only [Res.bind, e2] at h ⊢; exact h
    | ok r2 en2 =>
      simp only [Res.bind, e2] at h ⊢
      intro y H2 a2
      obtain ⟨sim2, ext2, rv2⟩ := a2.plain
      have rv1' := rv1.ext ext2
      split at h
      · rename_i he
        split at he
        · rename_i d1 d2 e3 e4
          have t1 := top_of sim2 rv1' e3
          have t2 := top_of sim2 rv2 e4
          cases e5 : g d1 d2 with
          | none => rw [e5] at he; cases he
          | some p =>
            obtain ⟨d, fr⟩ := p
            rw [e5] at he
            cases he
            exact k _ H2 x y d1 d2 d fr hide_same t1 t2 e5 fun v H' q => h v H' ((q.aft sim2).from (ext1.trans ext2))
        · cases he
      · rename_i he
        split at he
        · rename_i d1 d2 e3 e4
          cases e5 : g d1 d2 with
          | none => rw [e5] at he; cases he
          | some p => rw [e5] at he; cases he
        · cases he
      · exact h.elim
theorem one_ok {σ : St} {H : Hp} {Q : VK} {R : V → Hp → Prop} {g : G1} (h : tE K Z (evUn g fa) σ H Q)
    (k : ∀ (F H2 : Hp) (v1 : V) (d1 d : D) (fr : Bool), Same F H2 → Top K F H2 v1 d1 → g d1 = some (d, fr) → (∀ v H', OpAft K F H2 v H' d fr → Q v H') → R v1 H2) :
    tE K Z fa σ H fun x H1 => R x H1 := by
  obtain ⟨b, en, oa, sim, h⟩ := h
  refine ⟨b, en, oa, sim, ?_⟩
  unfold evUn at h
  cases e1 : fa en with
  | err => rw [e1] at h; exact h.elim
  | exc x en1 => rw [e1] at h; exact h
  | ok r1 en1 =>
    rw [e1] at h
    intro x H1 a1
    obtain ⟨sim1, ext1, rv1⟩ := a1.plain
    simp only [Res.bind] at h
    split at h
    · rename_i he
      split at he
      · rename_i d1 e3
        cases e5 : g d1 with
        | none => rw [e5] at he; cases he
        | some p =>
          obtain ⟨d, fr⟩ := p
          rw [e5] at he
          cases he
          exact k _ H1 x d1 d fr hide_same (top_of sim1 rv1 e3) e5 fun v H' q => h v H' ((q.aft sim1).from ext1)
      · cases he
    · rename_i he
      split at he
      · rename_i d1 e3
        cases e5 : g d1 with
        | none => rw [e5] at he; cases he
        | some p => rw [e5] at he; cases he
      · cases he
    · exact h.elim
theorem me_bin {a c : Expr} {op : Operator} {pos : Pos} {r : R2} {g : G2} (ho : OpR X (binaryOp op) r) (hg : Op2 X.K r g) (ha : PE X a (tE X.K Z fa)) (hb : PE X c (tE X.K Z fb)) : PE X (.BinOp a op c pos) (tE X.K Z (evBin g fa fb)) :=
  pe_imp (pe_op ho ha hb) fun σ H Q h => two_ok h fun F H2 v1 v2 d1 d2 d fr s t1 t2 e q => hg F H2 v1 v2 d1 d2 d fr Q s t1 t2 e q
theorem me_cmp {a c : Expr} {op : CmpOp} {pos : Pos} {r : R2} {g : G2} (ho : OpR X (compareOp op) r) (hg : Op2 X.K r g) (ha : PE X a (tE X.K Z fa)) (hb : PE X c (tE X.K Z fb)) (hm : behindInMarks op c = false) : PE X (.Compare a [op] [c] pos) (tE X.K Z (evBin g fa fb)) :=
  pe_imp (pe_cmpR ho ha hb hm) fun σ H Q h => two_ok h fun F H2 v1 v2 d1 d2 d fr s t1 t2 e q => hg F H2 v1 v2 d1 d2 d fr Q s t1 t2 e q
theorem me_ix {a c : Expr} {pos : Pos} {r : R2} {g : G2} (ho : IxR X r) (hg : Op2 X.K r g) (ha : PE X a (tE X.K Z fa)) (hb : PE X c (tE X.K Z fb)) (hs : PlainIx c) : PE X (.Subscript a c pos) (tE X.K Z (evBin g fa fb)) :=
  pe_imp (pe_ix ho ha hb hs) fun σ H Q h => two_ok h fun F H2 v1 v2 d1 d2 d fr s t1 t2 e q => hg F H2 v1 v2 d1 d2 d fr Q s t1 t2 e q
theorem me_un {a : Expr} {op : UnaryOp} {pos : Pos} {r : V → Hp → VK → Prop} {g : G1} (ho : UnR X (unaryOp op) r) (hg : Op1 X.K r g) (ha : PE X a (tE X.K Z fa)) : PE X (.UnaryOp op a pos) (tE X.K Z (evUn g fa)) :=
  pe_imp (pe_un ho ha) fun σ H Q h => one_ok h fun F H2 v1 d1 d fr s t1 e q => hg F H2 v1 d1 d fr Q s t1 e q

/-! ### tests -/
def asB (r : RV) (en : Fr) : Res Bool := match r with
  | .val (.bool k) _ => .ok k en
  | _ => .err
def evB (f : M RV) : M Bool := fun en => (f en).bind asB
theorem tru_bl {k : Bool} {en : Fr} {r : RV} {en1 : Fr} (h : asB r en = .ok k en1) : en1 = en ∧ ∃ fr, r = .val (.bool k) fr := by
  unfold asB at h
  split at h
  · cases h; exact ⟨rfl, _, rfl⟩
  · cases h
theorem evB_ok {f : M RV} {en en1 : Fr} {k : Bool} (h : evB f en = .ok k en1) : ∃ fr, f en = .ok (.val (.bool k) fr) en1 := by
  unfold evB Res.bind at h
  split at h
  · rename_i r en2 e
    obtain ⟨rfl, fr, rfl⟩ := tru_bl h
    exact ⟨fr, e⟩
  · cases h
  · cases h
theorem evB_exc {f : M RV} {en en1 : Fr} {x : Exc} (h : evB f en = .exc x en1) : f en = .exc x en1 := by
  unfold evB Res.bind at h
  split at h
  · rename_i r en2 e
    unfold asB at h
    split at h <;> cases h
  · rename_i e; cases h; exact e
  · cases h
theorem aft_bl {b : Bs} {oa : Nat → Addr} {σ : St} {H H1 : Hp} {en en1 : Fr} {v : V} {k : Bool} {fr : Bool} (h : Aft K b oa σ H en v H1 (.val (.bool k) fr) en1) : v = .bl k ∧ Sim K b oa σ H1 en1 ∧ Ext b oa H en H1 en1 := by
  obtain ⟨s, e, r⟩ := h.plain
  have q : Dp K (Frz b H1 en1 oa) v (.bool k) := r
  cases q
  exact ⟨rfl, s, e⟩
theorem test_ok {σ : St} {H : Hp} {Q : Bool → Hp → Prop} (h : tT K Z (evB fa) σ H Q) : tE K Z fa σ H fun x H1 => ∃ k, x = .bl k ∧ Q k H1 := by
  obtain ⟨b, en, oa, sim, h⟩ := h
  refine ⟨b, en, oa, sim, ?_⟩
  cases e1 : evB fa en with
  | err => rw [e1] at h; exact h.elim
  | exc x en1 => rw [e1] at h; rw [evB_exc e1]; exact h
  | ok k en1 =>
    rw [e1] at h
    obtain ⟨fr, e2⟩ := evB_ok e1
    rw [e2]
    intro x H1 a1
    obtain ⟨rfl, s1, x1⟩ := aft_bl a1
    exact ⟨k, rfl, h H1 s1 x1⟩
theorem me_val {e : Expr} (h : PE X e (tE X.K Z fa)) (he : ∀ whole, isTrue e X.env whole = (do let v ← whole; standAt e.pos; holding [v] (truthy v))) : PT X e (tT X.K Z (evB fa)) :=
  pt_imp (pt_val h he) fun σ H Q h => test_ok h
theorem me_cmpT {a c : Expr} {op : CmpOp} {pos : Pos} {r : R2} {g : G2} (ho : OpR X (compareOp op) r) (hg : Op2 X.K r g) (ha : PE X a (tE X.K Z fa)) (hb : PE X c (tE X.K Z fb)) (hm : behindInMarks op c = false) : PT X (.Compare a [op] [c] pos) (tT X.K Z (evB (evBin g fa fb))) :=
  pt_imp (pt_cmpR ho ha hb hm) fun σ H Q h => two_ok (Q := fun x H1 => ∃ k, x = .bl k ∧ Q k H1) (test_ok h) fun F H2 v1 v2 d1 d2 d fr s t1 t2 e q => hg F H2 v1 v2 d1 d2 d fr _ s t1 t2 e q
/-- not -/
def evNot (t : M Bool) : M RV := fun en => (t en).bind fun k en1 => .ok (.val (.bool (!k)) false) en1
def evIte {α : Type} (t : M Bool) (fa fb : M α) : M α := fun en => (t en).bind fun k en1 => if k = true then fa en1 else fb en1
theorem tT_imp {σ : St} {H : Hp} {f g : M Bool} {Q : Bool → Hp → Prop} (e : ∀ en, f en = g en) (h : tT K Z f σ H Q) : tT K Z g σ H Q := by
  have e' : f = g := funext e
  rw [← e']; exact h
theorem not_eq (t : M Bool) (en : Fr) : evB (evNot t) en = (t en).bind fun k en1 => .ok (!k) en1 := by
  unfold evB evNot
  cases t en <;> rfl
theorem me_notT {a : Expr} {pos : Pos} {t : M Bool} (h : PT X a (tT X.K Z t)) : PT X (.UnaryOp .Not a pos) (tT X.K Z (evB (evNot t))) := by
  refine pt_imp (pt_not h) fun σ H Q h => ?_
  obtain ⟨b, en, oa, sim, h⟩ := h
  refine ⟨b, en, oa, sim, ?_⟩
  rw [not_eq] at h
  cases e1 : t en with
  | err => rw [e1] at h; exact h.elim
  | exc x en1 => rw [e1] at h; exact h
  | ok k en1 =>
    rw [e1] at h
    exact h
/-- not, as a value -/
theorem me_not {a : Expr} {pos : Pos} (h : PE X a (tE X.K Z fa)) : PE X (.UnaryOp .Not a pos) (tE X.K Z (evNot (evB fa))) := by
  refine pe_imp (pe_not h) fun σ H Q h => ?_
  obtain ⟨b, en, oa, sim, h⟩ := h
  refine ⟨b, en, oa, sim, ?_⟩
  unfold evNot at h
  cases e1 : evB fa en with
  | err => rw [e1] at h; exact h.elim
  | exc x en1 => rw [e1] at h; rw [evB_exc e1]; exact h
  | ok k en1 =>
    rw [e1] at h
    obtain ⟨fr, e2⟩ := evB_ok e1
    rw [e2]
    intro v H1 a1
    obtain ⟨rfl, s1, x1⟩ := aft_bl a1
    exact ⟨k, rfl, h _ H1 ⟨s1, x1, .bl _⟩⟩
theorem me_ite {c a d : Expr} {pos : Pos} {t : M Bool} (hc : PT X c (tT X.K Z t)) (ha : PE X a (tE X.K Z fa)) (hb : PE X d (tE X.K Z fb)) : PE X (.IfExp c a d pos) (tE X.K Z (evIte t fa fb)) := by
  refine pe_imp (pe_ifExp hc ha hb) fun σ H Q h => ?_
  obtain ⟨b, en, oa, sim, h⟩ := h
  refine ⟨b, en, oa, sim, ?_⟩
  unfold evIte at h
  cases e1 : t en with
  | err => rw [e1] at h; exact h.elim
  | exc x en1 => rw [e1] at h; exact h
  | ok k en1 =>
    rw [e1] at h
    intro H1 s1 x1
    cases k with
    | true =>
      simp only [Res.bind, if_true] at h ⊢
      refine ⟨b, en1, oa, s1, ?_⟩
      cases e2 : fa en1 with
      | err => rw [e2] at h; exact h
      | exc x en2 => rw [e2] at h; exact h
      | ok r en2 => rw [e2] at h; exact fun v H2 q => h v H2 (q.from x1)
    | false =>
      simp only [Res.bind, Bool.false_eq_true, if_false] at h ⊢
      refine ⟨b, en1, oa, s1, ?_⟩
      cases e2 : fb en1 with
      | err => rw [e2] at h; exact h
      | exc x en2 => rw [e2] at h; exact h
      | ok r en2 => rw [e2] at h; exact fun v H2 q => h v H2 (q.from x1)

/-! ### and, or -/
/-- all but the last: k: and; a row of bools -/
def evBl (k : Bool) : List (M Bool) → M Bool
  | [] => fun _ => .err
  | [t] => t
  | t :: ts => fun en => (t en).bind fun c en1 => if c = k then evBl k ts en1 else .ok (!k) en1
def evBool (k : Bool) (ts : List (M Bool)) : M RV := fun en => (evBl k ts en).bind fun c en1 => .ok (.val (.bool c) false) en1
theorem evB_bool (k : Bool) (ts : List (M Bool)) (en : Fr) : evB (evBool k ts) en = evBl k ts en := by
  unfold evB evBool
  cases evBl k ts en <;> rfl
theorem me_and1 {a : Expr} {pos : Pos} {t : M Bool} (h : PT X a (tT X.K Z t)) : PW X (.BoolOp .And [a] pos) (tT X.K Z (evBl true [t])) := pw_imp (pw_and1 h) fun _ _ _ h => h
theorem me_or1 {a : Expr} {pos : Pos} {t : M Bool} (h : PT X a (tT X.K Z t)) : PW X (.BoolOp .Or [a] pos) (tT X.K Z (evBl false [t])) := pw_imp (pw_or1 h) fun _ _ _ h => h
theorem bl_ok {σ : St} {H : Hp} {Q : Bool → Hp → Prop} {k : Bool} {t u : M Bool} {ts : List (M Bool)} (h : tT K Z (evBl k (t :: u :: ts)) σ H Q) :
    tT K Z t σ H fun c H1 => if c = k then tT K Z (evBl k (u :: ts)) σ H1 Q else Q (!k) H1 := by
  obtain ⟨b, en, oa, sim, h⟩ := h
  refine ⟨b, en, oa, sim, ?_⟩
  rw [show evBl k (t :: u :: ts) en = (t en).bind fun c en1 => if c = k then evBl k (u :: ts) en1 else .ok (!k) en1 from rfl] at h
  cases e1 : t en with
  | err => rw [e1] at h; exact h.elim
  | exc x en1 => rw [e1] at h; exact h
  | ok c en1 =>
    rw [e1] at h
    intro H1 s1 x1
    simp only [Res.bind] at h
    by_cases hc : c = k
    · rw [if_pos hc] at h ⊢
      refine ⟨b, en1, oa, s1, ?_⟩
      cases e2 : evBl k (u :: ts) en1 with
      | err => rw [e2] at h; exact h
      | exc x en2 => rw [e2] at h; exact h
      | ok r en2 => rw [e2] at h; exact fun H2 q s => h H2 q (x1.trans s)
    · rw [if_neg hc] at h ⊢
      exact h H1 s1 x1
theorem me_andC {a d : Expr} {rest : List Expr} {pos : Pos} {t u : M Bool} {ts : List (M Bool)} (h : PT X a (tT X.K Z t)) (h2 : PW X (.BoolOp .And (d :: rest) pos) (tT X.K Z (evBl true (u :: ts)))) : PW X (.BoolOp .And (a :: d :: rest) pos) (tT X.K Z (evBl true (t :: u :: ts))) :=
  pw_imp (pw_and h h2) fun σ H Q h => by
    obtain ⟨b, en, oa, sim, q⟩ := bl_ok h
    refine ⟨b, en, oa, sim, ?_⟩
    cases e1 : t en with
    | err => rw [e1] at q; exact q
    | exc x en1 => rw [e1] at q; exact q
    | ok c en1 => rw [e1] at q; exact fun H1 s x => by cases c <;> exact q H1 s x
theorem me_orC {a d : Expr} {rest : List Expr} {pos : Pos} {t u : M Bool} {ts : List (M Bool)} (h : PT X a (tT X.K Z t)) (h2 : PW X (.BoolOp .Or (d :: rest) pos) (tT X.K Z (evBl false (u :: ts)))) : PW X (.BoolOp .Or (a :: d :: rest) pos) (tT X.K Z (evBl false (t :: u :: ts))) :=
  pw_imp (pw_or h h2) fun σ H Q h => by
    obtain ⟨b, en, oa, sim, q⟩ := bl_ok h
    refine ⟨b, en, oa, sim, ?_⟩
    cases e1 : t en with
    | err => rw [e1] at q; exact q
    | exc x en1 => rw [e1] at q; exact q
    | ok c en1 => rw [e1] at q; exact fun H1 s x => by cases c <;> exact q H1 s x
/-- .. as values -/
def evBlV (k : Bool) : List (M RV) → M RV
  | [] => fun _ => .err
  | [t] => fun en => (evB t en).bind fun c en1 => .ok (.val (.bool c) false) en1
  | t :: ts => fun en => (evB t en).bind fun c en1 => if c = k then evBlV k ts en1 else .ok (.val (.bool (!k)) false) en1
theorem me_bool1 {op : BoolOp} {a : Expr} {pos : Pos} {k : Bool} (h : PE X a (tE X.K Z fa)) : PE X (.BoolOp op [a] pos) (tE X.K Z (evBlV k [fa])) := by
  refine pe_imp (pe_one h) fun σ H Q h => ?_
  obtain ⟨b, en, oa, sim, h⟩ := h
  refine ⟨b, en, oa, sim, ?_⟩
  rw [show evBlV k [fa] en = (evB fa en).bind fun c en1 => .ok (.val (.bool c) false) en1 from rfl] at h
  cases e1 : evB fa en with
  | err => rw [e1] at h; exact h.elim
  | exc x en1 => rw [e1] at h; rw [evB_exc e1]; exact h
  | ok c en1 =>
    rw [e1] at h
    obtain ⟨fr, e2⟩ := evB_ok e1
    rw [e2]
    exact fun v H1 a1 => h v H1 a1.weak
theorem blV_ok {σ : St} {H : Hp} {Q : VK} {k : Bool} {u : M RV} {ts : List (M RV)} (h : tE K Z (evBlV k (fa :: u :: ts)) σ H Q) :
    tE K Z fa σ H fun x H1 => ∃ c, x = .bl c ∧ if c = k then tE K Z (evBlV k (u :: ts)) σ H1 Q else Q (.bl (!k)) H1 := by
  obtain ⟨b, en, oa, sim, h⟩ := h
  refine ⟨b, en, oa, sim, ?_⟩
  rw [show evBlV k (fa :: u :: ts) en = (evB fa en).bind fun c en1 => if c = k then evBlV k (u :: ts) en1 else .ok (.val (.bool (!k)) false) en1 from rfl] at h
  cases e1 : evB fa en with
  | err => rw [e1] at h; exact h.elim
  | exc x en1 => rw [e1] at h; rw [evB_exc e1]; exact h
  | ok c en1 =>
    rw [e1] at h
    obtain ⟨fr, e2⟩ := evB_ok e1
    rw [e2]
    intro v H1 a1
    obtain ⟨rfl, s1, x1⟩ := aft_bl a1
    refine ⟨c, rfl, ?_⟩
    simp only [Res.bind] at h
    by_cases hc : c = k
    · rw [if_pos hc] at h ⊢
      refine ⟨b, en1, oa, s1, ?_⟩
      cases e2 : evBlV k (u :: ts) en1 with
      | err => rw [e2] at h; exact h
      | exc x en2 => rw [e2] at h; exact h
      | ok r en2 => rw [e2] at h; exact fun v H2 q => h v H2 (q.from x1)
    · rw [if_neg hc] at h ⊢
      exact h _ H1 ⟨s1, x1, .bl _⟩
theorem me_andV {a d : Expr} {rest : List Expr} {pos : Pos} {u : M RV} {ts : List (M RV)} (h : PE X a (tE X.K Z fa)) (h2 : PE X (.BoolOp .And (d :: rest) pos) (tE X.K Z (evBlV true (u :: ts)))) : PE X (.BoolOp .And (a :: d :: rest) pos) (tE X.K Z (evBlV true (fa :: u :: ts))) :=
  pe_imp (pe_and h h2) fun σ H Q h => by
    obtain ⟨b, en, oa, sim, q⟩ := blV_ok h
    refine ⟨b, en, oa, sim, ?_⟩
    cases e1 : fa en with
    | err => rw [e1] at q; exact q
    | exc x en1 => rw [e1] at q; exact q
    | ok c en1 =>
      rw [e1] at q
      intro v H1 s
      obtain ⟨c, e, q⟩ := q v H1 s
      refine ⟨c, e, ?_⟩
      cases c <;> exact q
theorem me_orV {a d : Expr} {rest : List Expr} {pos : Pos} {u : M RV} {ts : List (M RV)} (h : PE X a (tE X.K Z fa)) (h2 : PE X (.BoolOp .Or (d :: rest) pos) (tE X.K Z (evBlV false (u :: ts)))) : PE X (.BoolOp .Or (a :: d :: rest) pos) (tE X.K Z (evBlV false (fa :: u :: ts))) :=
  pe_imp (pe_or h h2) fun σ H Q h => by
    obtain ⟨b, en, oa, sim, q⟩ := blV_ok h
    refine ⟨b, en, oa, sim, ?_⟩
    cases e1 : fa en with
    | err => rw [e1] at q; exact q
    | exc x en1 => rw [e1] at q; exact q
    | ok c en1 =>
      rw [e1] at q
      intro v H1 s
      obtain ⟨c, e, q⟩ := q v H1 s
      refine ⟨c, e, ?_⟩
      cases c <;> exact q
end
end Mi
set_option Elab.async false
set_option linter.all false
set_option maxRecDepth 100000
set_option autoImplicit false
/-! Mi3: argument lists, displays, calls of built-ins, methods, slices, chains -/
namespace Mi
open PySem PySem.Spec L2

def evAll : List (M RV) → M (List RV)
  | [] => fun en => .ok [] en
  | f :: fs => fun en => (f en).bind fun r en1 => (evAll fs en1).bind fun rs en2 => .ok (r :: rs) en2
/-- as data, now -/
def rvDs (en : Fr) : List RV → Option (List D)
  | [] => some []
  | r :: rs => (rvD en r).bind fun d => (rvDs en rs).map fun ds => d :: ds
/-- data that may be kept -/
def valDs : List RV → Option (List D)
  | [] => some []
  | .val d _ :: rs => (valDs rs).map fun ds => d :: ds
  | .loc _ :: _ => none
theorem evAll_len : ∀ {fs : List (M RV)} {en en1 : Fr} {rs : List RV}, evAll fs en = .ok rs en1 → rs.length = fs.length
  | [], en, en1, rs, h => by cases h; rfl
  | f :: fs, en, en1, rs, h => by
    unfold evAll Res.bind at h
    split at h
    · rename_i r en2 e
      simp only at h
      split at h
      · rename_i rs2 en3 e2
        cases h
        rw [List.length_cons, List.length_cons, evAll_len e2]
      · cases h
      · cases h
    · cases h
    · cases h
theorem valDs_len : ∀ {rs : List RV} {ds : List D}, valDs rs = some ds → ds.length = rs.length
  | [], ds, h => by cases h; rfl
  | .val d fr :: rs, ds, h => by
    unfold valDs at h
    cases e : valDs rs with
    | none => rw [e] at h; cases h
    | some es => rw [e] at h; cases h; rw [List.length_cons, List.length_cons, valDs_len e]
  | .loc i :: rs, ds, h => by cases h
inductive TopAll (K : PySem.W.Frag) (F H : Hp) : List V → List D → Prop
  | nil : TopAll K F H [] []
  | cons {v : V} {d : D} {vs : List V} {ds : List D} : Top K F H v d → TopAll K F H vs ds → TopAll K F H (v :: vs) (d :: ds)
theorem topAll_of {K : PySem.W.Frag} {b : Bs} {oa : Nat → Addr} {σ : St} {H : Hp} {en : Fr} (s : Sim K b oa σ H en) : ∀ {vs : List V} {rs : List RV} {ds : List D}, RvAll K b oa H en vs rs → rvDs en rs = some ds → TopAll K (Frz b H en oa) H vs ds
  | _, _, _, .nil, e => by cases e; exact .nil
  | _, _, ds, .cons h hs, e => by
    rename_i v r vs rs
    unfold rvDs at e
    cases e1 : rvD en r with
    | none => rw [e1] at e; cases e
    | some d =>
      rw [e1] at e
      cases e2 : rvDs en rs with
      | none => rw [e2] at e; cases e
      | some ds' =>
        rw [e2] at e
        cases e
        exact .cons (top_of s h e1) (topAll_of s hs e2)
theorem dpAll_of {K : PySem.W.Frag} {b : Bs} {oa : Nat → Addr} {H : Hp} {en : Fr} : ∀ {vs : List V} {rs : List RV} {ds : List D}, RvAll K b oa H en vs rs → valDs rs = some ds → DpAll K (Frz b H en oa) vs ds
  | _, _, _, .nil, e => by cases e; exact .nil
  | _, _, ds, .cons h hs, e => by
    rename_i v r vs rs
    cases r with
    | loc i => cases e
    | val d fr =>
      unfold valDs at e
      cases e2 : valDs rs with
      | none => rw [e2] at e; cases e
      | some ds' =>
        rw [e2] at e
        cases e
        exact .cons h (dpAll_of hs e2)

section
variable {X : Cx} {K : PySem.W.Frag} {Z : ZT} {fa fb fc : M RV}
theorem ma_nil : PA X [] (tAs X.K Z (evAll [])) := pa_imp pa_nil fun σ H Q h => by
  obtain ⟨b, en, oa, sim, h⟩ := h
  exact h [] H sim (Ext.refl) .nil
theorem ma_cons {e : Expr} {es : List Expr} {f : M RV} {fs : List (M RV)} (he : PE X e (tE X.K Z f)) (hr : PA X es (tAs X.K Z (evAll fs))) (hs : starEach (e :: es) X.env = (false, eval e X.env) :: starEach es X.env) : PA X (e :: es) (tAs X.K Z (evAll (f :: fs))) := by
  refine pa_imp (pa_cons he hr hs) fun σ H Q h => ?_
  obtain ⟨b, en, oa, sim, h⟩ := h
  refine ⟨b, en, oa, sim, ?_⟩
  rw [show evAll (f :: fs) en = (f en).bind fun r en1 => (evAll fs en1).bind fun rs en2 => .ok (r :: rs) en2 from rfl] at h
  cases e1 : f en with
  | err => rw [e1] at h; exact h.elim
  | exc x en1 => rw [e1] at h; exact h
  | ok r en1 =>
    rw [e1] at h
    intro v H1 a1
    obtain ⟨s1, x1, r1⟩ := a1.plain
    refine ⟨b, en1, oa, s1, ?_⟩
    cases e2 : evAll fs en1 with
    | err => simp only [Res.bind, e2] at h
    | exc x en2 => simp only [Res.bind, e2] at h ⊢; exact h
    | ok rs en2 =>
      simp only [Res.bind, e2] at h ⊢
      intro vs H2 s2 x2 r2
      exact h (v :: vs) H2 s2 (x1.trans x2) (.cons (r1.ext x2) r2)

/-! ### displays -/
def mkTup (ds : List D) : D × Bool := (.tuple ds, false)
def mkLst (ds : List D) : D × Bool := (.list ds, true)
def evMk (mk : List D → D × Bool) (fs : List (M RV)) : M RV := fun en => (evAll fs en).bind fun rs en1 => match valDs rs with
  | some ds => .ok (.val (mk ds).1 (mk ds).2) en1
  | none => .err
theorem mk_ok {σ : St} {H : Hp} {Q : VK} {fs : List (M RV)} {mk : List D → D × Bool} {R : List V → Hp → Prop} (h : tE K Z (evMk mk fs) σ H Q)
    (k : ∀ (F H2 : Hp) (vs : List V) (ds : List D), vs.length = fs.length → Same F H2 → DpAll K F vs ds → (∀ v H', OpAft K F H2 v H' (mk ds).1 (mk ds).2 → Q v H') → R vs H2) : tAs K Z (evAll fs) σ H R := by
  obtain ⟨b, en, oa, sim, h⟩ := h
  refine ⟨b, en, oa, sim, ?_⟩
  unfold evMk at h
  cases e1 : evAll fs en with
  | err => rw [e1] at h; exact h.elim
  | exc x en1 => rw [e1] at h; exact h
  | ok rs en1 =>
    rw [e1] at h
    simp only [Res.bind] at h
    intro vs H1 s1 x1 r1
    cases e2 : valDs rs with
    | none => rw [e2] at h; exact h.elim
    | some ds =>
      rw [e2] at h
      have dp := dpAll_of r1 e2
      refine k _ H1 vs ds ?_ hide_same dp fun v H' q => h v H' ((q.aft s1).from x1)
      rw [dpAll_len dp, valDs_len e2, evAll_len e1]
theorem me_tup {es : List Expr} {x1 : Nat} {pos : Pos} {fs : List (M RV)} (ha : PA X es (tAs X.K Z (evAll fs))) (hl : fs.length ≤ sizeLine) : PE X (.Tuple es x1 pos) (tE X.K Z (evMk mkTup fs)) :=
  pe_imp (pe_tup ha) fun σ H Q h => mk_ok h fun F H2 vs ds e s dp q => ⟨by rw [e]; exact hl, fun p hp => q _ _ (OpAft.tup hp dp)⟩
theorem me_lst {es : List Expr} {pos : Pos} {fs : List (M RV)} (ha : PA X es (tAs X.K Z (evAll fs))) (hl : fs.length ≤ sizeLine) : PE X (.List es pos) (tE X.K Z (evMk mkLst fs)) :=
  pe_imp (pe_lst ha) fun σ H Q h => mk_ok h fun F H2 vs ds e s dp q => ⟨by rw [e]; exact hl, fun p hp => q _ _ (OpAft.lst hp dp)⟩

/-! ### calls of built-ins -/
abbrev GN := List D → Option (D × Bool)
def OpN (K : PySem.W.Frag) (r : List V → Hp → VK → Prop) (g : GN) : Prop := ∀ (F H : Hp) (vs : List V) (ds : List D) (d : D) (fr : Bool) (Q : VK), Same F H → TopAll K F H vs ds → g ds = some (d, fr) → (∀ v H', OpAft K F H v H' d fr → Q v H') → r vs H Q
def evCallB (g : GN) (fs : List (M RV)) : M RV := fun en => (evAll fs en).bind fun rs en1 => match rvDs en1 rs with
  | some ds => fin en1 (g ds)
  | none => .err
theorem callB_ok {σ : St} {H : Hp} {Q : VK} {fs : List (M RV)} {g : GN} {r : List V → Hp → VK → Prop} (hg : OpN K r g) (h : tE K Z (evCallB g fs) σ H Q) : tCB r (tAs K Z (evAll fs)) σ H Q := by
  obtain ⟨b, en, oa, sim, h⟩ := h
  refine ⟨b, en, oa, sim, ?_⟩
  unfold evCallB at h
  cases e1 : evAll fs en with
  | err => rw [e1] at h; exact h.elim
  | exc x en1 => rw [e1] at h; exact h
  | ok rs en1 =>
    rw [e1] at h
    simp only [Res.bind] at h
    intro vs H1 s1 x1 r1
    cases e2 : rvDs en1 rs with
    | none => rw [e2] at h; exact h.elim
    | some ds =>
      rw [e2] at h
      simp only at h
      cases e3 : g ds with
      | none => rw [e3] at h; exact h.elim
      | some p =>
        obtain ⟨d, fr⟩ := p
        rw [e3] at h
        exact hg _ H1 vs ds d fr Q hide_same (topAll_of s1 r1 e2) e3 fun v H' q => h v H' ((q.aft s1).from x1)
theorem me_callB {x : Str} {id : String} {p pos : Pos} {e : Expr} {es : List Expr} {fs : List (M RV)} {g : GN} {r : List V → Hp → VK → Prop} (hc : CallR X (.builtin id) r) (hr : OpN X.K r g) (hg : Gl X x) (hm : X.mg x = none) (hv : bootBuiltins x = some (.builtin id))
    (ha : PA X (e :: es) (tAs X.K Z (evAll fs))) (hn : x ≠ "__name__") (hdb : (x == ("__debug__" : Str)) = false)
    (he : starEach (e :: es) X.env = (false, eval e X.env) :: starEach es X.env) (hpl : (backTo pos (starEach es X.env)).any (·.1) = false) : PE X (.Call (.Name x p) (e :: es) [] pos) (tE X.K Z (evCallB g fs)) :=
  pe_imp (pe_callB hc hg hm hv ha hn hdb he hpl) fun σ H Q h => callB_ok hr h
theorem me_callTy {x : Str} {T : String} {p pos : Pos} {e : Expr} {es : List Expr} {fs : List (M RV)} {g : GN} {r : List V → Hp → VK → Prop} (hc : CallR X (.type T) r) (hr : OpN X.K r g) (hg : Gl X x) (hm : X.mg x = none) (hv : bootBuiltins x = some (.type T))
    (ha : PA X (e :: es) (tAs X.K Z (evAll fs))) (hn : x ≠ "__name__") (hdb : (x == ("__debug__" : Str)) = false)
    (he : starEach (e :: es) X.env = (false, eval e X.env) :: starEach es X.env) (hpl : (backTo pos (starEach es X.env)).any (·.1) = false) : PE X (.Call (.Name x p) (e :: es) [] pos) (tE X.K Z (evCallB g fs)) :=
  pe_imp (pe_callTy hc hg hm hv ha hn hdb he hpl) fun σ H Q h => callB_ok hr h

/-! ### methods of built-in types, nothing changed -/
def tyD (T : String) : D → Bool
  | .str _ => T == "str"
  | .list _ => T == "list"
  | _ => false
theorem tyD_ok {K : PySem.W.Frag} {F H : Hp} {T : String} {v : V} {d : D} (t : Top K F H v d) (h : tyD T d = true) : tyV K T v H := by
  cases d with
  | str x =>
    have t' : Dp K F v (.str x) := t
    cases t'
    have e : T = "str" := by simpa [tyD] using h
    exact e
  | list ds =>
    obtain ⟨a, vs, rfl, q, r⟩ := t
    have e : T = "list" := by simpa [tyD] using h
    exact .inl ⟨e, vs, q⟩
  | _ => cases h
abbrev GM := D → List D → Option (D × Bool)
def OpM (K : PySem.W.Frag) (r : V → List V → Hp → VK → Prop) (g : GM) : Prop := ∀ (F H : Hp) (v : V) (vs : List V) (d1 : D) (ds : List D) (d : D) (fr : Bool) (Q : VK), Same F H → Top K F H v d1 → TopAll K F H vs ds → g d1 ds = some (d, fr) → (∀ v H', OpAft K F H v H' d fr → Q v H') → r v vs H Q
def evMeth (T : String) (g : GM) (fo : M RV) (fs : List (M RV)) : M RV := fun en => (fo en).bind fun r en1 => match rvD en1 r with
  | none => .err
  | some d0 => if tyD T d0 = true then (evAll fs en1).bind fun rs en2 => match rvD en2 r, rvDs en2 rs with
    | some d1, some ds => fin en2 (g d1 ds)
    | _, _ => .err
    else .err
theorem me_meth {T id : String} {name : Str} {apos cpos : Pos} {o e : Expr} {es : List Expr} {fs : List (M RV)} {g : GM} {r : V → List V → Hp → VK → Prop} (pa : PlainAttrs T) (slot : Slot T name id) (hty : typeOf (.builtin id) = pure (.type "method_descriptor")) (hm : MtR X id r) (hr : OpM X.K r g)
    (ho : PE X o (tE X.K Z fa)) (ha : PA X (e :: es) (tAs X.K Z (evAll fs)))
    (hbase : attributeBase o name X.env (eval o X.env) = eval o X.env)
    (hfew : ((backTo cpos (starEach (e :: es) X.env)).all (fun x => !x.1) && (backToKw cpos (keywordEach [] X.env)).all (fun x => x.1.isSome)
      && decide ((e :: es).length + ([] : List Keyword).length + (if ([] : List Keyword).isEmpty then 0 else 1) < 30)) = true)
    (hline : (apos.endLine == cpos.line) = true) (hs : starEach (e :: es) X.env = (false, eval e X.env) :: starEach es X.env) (hplain : (backTo cpos (starEach es X.env)).any (·.1) = false) :
    PE X (.Call (.Attribute o name apos) (e :: es) [] cpos) (tE X.K Z (evMeth T g fa fs)) := by
  refine pe_imp (pe_bm pa slot hty hm ho ha hbase hfew hline hs hplain) fun σ H Q h => ?_
  obtain ⟨b, en, oa, sim, h⟩ := h
  refine ⟨b, en, oa, sim, ?_⟩
  unfold evMeth at h
  cases e1 : fa en with
  | err => rw [e1] at h; exact h.elim
  | exc x en1 => rw [e1] at h; exact h
  | ok r1 en1 =>
    rw [e1] at h
    simp only [Res.bind] at h
    intro v H1 a1
    obtain ⟨s1, x1, rv1⟩ := a1.plain
    cases e2 : rvD en1 r1 with
    | none => rw [e2] at h; exact h.elim
    | some d0 =>
      rw [e2] at h
      simp only at h
      by_cases c : tyD T d0 = true
      · rw [if_pos c] at h
        refine ⟨tyD_ok (top_of s1 rv1 e2) c, b, en1, oa, s1, ?_⟩
        cases e3 : evAll fs en1 with
        | err => rw [e3] at h; exact h.elim
        | exc x en2 => rw [e3] at h; exact h
        | ok rs en2 =>
          rw [e3] at h
          simp only at h
          intro vs H2 s2 x2 r2
          cases e4 : rvD en2 r1 with
          | none => rw [e4] at h; exact h.elim
          | some d1 =>
            cases e5 : rvDs en2 rs with
            | none => rw [e4, e5] at h; exact h.elim
            | some ds =>
              rw [e4, e5] at h
              simp only at h
              cases e6 : g d1 ds with
              | none => rw [e6] at h; exact h.elim
              | some p =>
                obtain ⟨d, fr⟩ := p
                rw [e6] at h
                exact hr _ H2 v vs d1 ds d fr Q hide_same (top_of s2 (rv1.ext x2) e4) (topAll_of s2 r2 e5) e6 fun v H' q => h v H' ((q.aft s2).from (x1.trans x2))
      · rw [if_neg c] at h
        exact h.elim

/-! ### slices -/
def intD : D → Option Int
  | .int i => some i
  | _ => none
def evPart (f : M RV) : M (Option Int) := fun en => (f en).bind fun r en1 => match r with
    | .val (.int i) _ => .ok (some i) en1
    | _ => .err
def evNoPart : M (Option Int) := fun en => .ok none en
def tPt (K : PySem.W.Frag) (Z : ZT) (f : M (Option Int)) : TO := fun σ H Q => ∃ b en oa, Sim K b oa σ H en ∧ match f en with
  | .ok k en' => ∀ H', Sim K b oa σ H' en' → Ext b oa H en H' en' → Q k H'
  | .exc x en' => ∀ H', Sim K b oa σ H' en' → Z x σ H'
  | .err => False
theorem po_imp {e : Option Expr} {t t' : TO} (h : PO X e t) (i : ∀ σ H Q, t' σ H Q → t σ H Q) : PO X e t' := ⟨fun pins s σ H Q I hw => h.run pins s σ H Q I (i σ H Q hw)⟩
theorem mo_none : PO X none (tPt X.K Z evNoPart) := po_imp po_none fun σ H Q h => by
  obtain ⟨b, en, oa, sim, h⟩ := h
  exact h H sim (Ext.refl)
theorem mo_some {e : Expr} (h : PE X e (tE X.K Z fa)) : PO X (some e) (tPt X.K Z (evPart fa)) := by
  refine po_imp (po_some h) fun σ H Q h => ?_
  obtain ⟨b, en, oa, sim, h⟩ := h
  refine ⟨b, en, oa, sim, ?_⟩
  unfold evPart at h
  cases e1 : fa en with
  | err => rw [e1] at h; exact h.elim
  | exc x en1 => rw [e1] at h; exact h
  | ok r1 en1 =>
    rw [e1] at h
    simp only [Res.bind] at h
    intro v H1 a1
    split at h
    · rename_i he
      split at he
      · rename_i i fr
        cases he
        obtain ⟨s1, x1, rv⟩ := a1.plain
        have q : Dp X.K _ v (.int i) := rv
        cases q
        exact ⟨i, rfl, h H1 s1 x1⟩
      · cases he
    · rename_i he
      split at he <;> cases he
    · exact h.elim
abbrev GS := D → Option Int → Option Int → Option (D × Bool)
def OpS (K : PySem.W.Frag) (r : V → Option Int → Option Int → Hp → VK → Prop) (g : GS) : Prop := ∀ (F H : Hp) (v1 : V) (d1 d : D) (lo hi : Option Int) (fr : Bool) (Q : VK), Same F H → Top K F H v1 d1 → g d1 lo hi = some (d, fr) → (∀ v H', OpAft K F H v H' d fr → Q v H') → r v1 lo hi H Q
def evSl (g : GS) (fo : M RV) (fl fh : M (Option Int)) : M RV := fun en => (fo en).bind fun r en1 => (fl en1).bind fun lo en2 => (fh en2).bind fun hi en3 => match rvD en3 r with
  | some d => fin en3 (g d lo hi)
  | none => .err
theorem me_slice {e : Expr} {lo hi : Option Expr} {p2 pos : Pos} {fl fh : M (Option Int)} {g : GS} {r : V → Option Int → Option Int → Hp → VK → Prop} (hr : SlR X r) (hg : OpS X.K r g) (he : PE X e (tE X.K Z fa)) (hl : PO X lo (tPt X.K Z fl)) (hh : PO X hi (tPt X.K Z fh)) :
    PE X (.Subscript e (.Slice lo hi none p2) pos) (tE X.K Z (evSl g fa fl fh)) := by
  refine pe_imp (pe_slice hr he hl hh) fun σ H Q h => ?_
  obtain ⟨b, en, oa, sim, h⟩ := h
  refine ⟨b, en, oa, sim, ?_⟩
  unfold evSl at h
  cases e1 : fa en with
  | err => rw [e1] at h; exact h.elim
  | exc x en1 => rw [e1] at h; exact h
  | ok r1 en1 =>
    rw [e1] at h
    intro v H1 a1
    obtain ⟨s1, x1, rv1⟩ := a1.plain
    refine ⟨b, en1, oa, s1, ?_⟩
    simp only [Res.bind] at h
    cases e2 : fl en1 with
    | err => rw [e2] at h; exact h.elim
    | exc x en2 => rw [e2] at h; exact h
    | ok l en2 =>
      rw [e2] at h
      simp only at h
      intro H2 s2 x2
      refine ⟨b, en2, oa, s2, ?_⟩
      cases e3 : fh en2 with
      | err => rw [e3] at h; exact h.elim
      | exc x en3 => rw [e3] at h; exact h
      | ok u en3 =>
        rw [e3] at h
        simp only at h
        intro H3 s3 x3
        cases e4 : rvD en3 r1 with
        | none => rw [e4] at h; exact h.elim
        | some d0 =>
          rw [e4] at h
          simp only at h
          cases e5 : g d0 l u with
          | none => rw [e5] at h; exact h.elim
          | some p =>
            obtain ⟨d, fr⟩ := p
            rw [e5] at h
            exact hg _ H3 v d0 d l u fr Q hide_same (top_of s3 (rv1.ext (x2.trans x3)) e4) e5 fun v H' q => h v H' ((q.aft s3).from (x1.trans (x2.trans x3)))

/-! ### chains of comparisons of ints -/
def intOf : RV → Option Int
  | .val (.int i) _ => some i
  | _ => none
/-- a op b op' c, all ints -/
def evChain (p p' : Int → Int → Bool) (fa fb fc : M RV) : M RV := fun en => (fa en).bind fun r1 en1 => (fb en1).bind fun r2 en2 => match intOf r1, intOf r2 with
  | some i, some j => if p i j = true then (fc en2).bind fun r3 en3 => match intOf r3 with
      | some l => .ok (.val (.bool (p' j l)) false) en3
      | none => .err
    else .ok (.val (.bool false) false) en2
  | _, _ => .err
theorem intOf_ok {b : Bs} {oa : Nat → Addr} {H : Hp} {en : Fr} {v : V} {r : RV} {i : Int} (h : RvOk K b oa H en v r) (e : intOf r = some i) : v = .int i := by
  unfold intOf at e
  split at e
  · cases e
    have q : Dp K _ v (.int i) := h
    cases q
    rfl
  · cases e
theorem chain_ok {σ : St} {H : Hp} {Q : VK} {p p' : Int → Int → Bool} (h : tE K Z (evChain p p' fa fb fc) σ H Q) :
    tE K Z fa σ H fun x H1 => tE K Z fb σ H1 fun y H2 => ∃ i j, x = .int i ∧ y = .int j ∧ (if p i j = true then tE K Z fc σ H2 fun z H3 => ∃ l, z = .int l ∧ Q (.bl (p' j l)) H3 else Q (.bl false) H2) := by
  obtain ⟨b, en, oa, sim, h⟩ := h
  refine ⟨b, en, oa, sim, ?_⟩
  unfold evChain at h
  cases e1 : fa en with
  | err => rw [e1] at h; exact h.elim
  | exc x en1 => rw [e1] at h; exact h
  | ok r1 en1 =>
    rw [e1] at h
    intro v H1 a1
    obtain ⟨s1, x1, rv1⟩ := a1.plain
    refine ⟨b, en1, oa, s1, ?_⟩
    simp only [Res.bind] at h
    cases e2 : fb en1 with
    | err => rw [e2] at h; exact h.elim
    | exc x en2 => rw [e2] at h; exact h
    | ok r2 en2 =>
      rw [e2] at h
      simp only at h
      intro u H2 a2
      obtain ⟨s2, x2, rv2⟩ := a2.plain
      cases e3 : intOf r1 with
      | none => rw [e3] at h; exact h.elim
      | some i =>
        cases e4 : intOf r2 with
        | none => rw [e3, e4] at h; exact h.elim
        | some j =>
          rw [e3, e4] at h
          simp only at h
          refine ⟨i, j, intOf_ok rv1 e3, intOf_ok rv2 e4, ?_⟩
          by_cases c : p i j = true
          · rw [if_pos c] at h ⊢
            refine ⟨b, en2, oa, s2, ?_⟩
            cases e5 : fc en2 with
            | err => rw [e5] at h; exact h.elim
            | exc x en3 => rw [e5] at h; exact h
            | ok r3 en3 =>
              rw [e5] at h
              simp only at h
              intro z H3 a3
              obtain ⟨s3, x3, rv3⟩ := a3.plain
              cases e6 : intOf r3 with
              | none => rw [e6] at h; exact h.elim
              | some l =>
                rw [e6] at h
                exact ⟨l, intOf_ok rv3 e6, h _ H3 ⟨s3, x1.trans (x2.trans x3), .bl _⟩⟩
          · rw [if_neg c] at h ⊢
            exact h _ H2 ⟨s2, x1.trans x2, .bl _⟩
theorem tE_mono {f : M RV} {σ : St} {H : Hp} {Q Q' : VK} (h : tE K Z f σ H Q) (m : ∀ v H', Q v H' → Q' v H') : tE K Z f σ H Q' := by
  obtain ⟨b, en, oa, sim, h⟩ := h
  refine ⟨b, en, oa, sim, ?_⟩
  cases e1 : f en with
  | err => rw [e1] at h; exact h
  | exc x en1 => rw [e1] at h; exact h
  | ok r1 en1 => rw [e1] at h; exact fun v H' q => m _ _ (h v H' q)
theorem lastMarks_no {op op' : CmpOp} {c d : Expr} (h : op' ≠ .In) (h2 : op' ≠ .NotIn) : lastMarks [op, op'] [c, d] = false := nobehind d h h2
theorem chain_to {σ : St} {H : Hp} {Q : VK} {p p' : Int → Int → Bool} (h : tE K Z (evChain p p' fa fb fc) σ H Q) :
    tChain (rI0 fun i j => .bl (p i j)) (rI0 fun i j => .bl (p' i j)) (tE K Z fa) (tE K Z fb) (tE K Z fc) σ H Q := by
  refine tE_mono (chain_ok h) fun x H1 q => tE_mono q fun y H2 ⟨i, j, e1, e2, q⟩ => ⟨i, j, e1, e2, _, rfl, ?_⟩
  by_cases c : p i j = true
  · rw [if_pos c] at q ⊢
    exact tE_mono q fun z H3 ⟨l, e3, q⟩ => ⟨j, l, e2, e3, q⟩
  · rw [if_neg c] at q ⊢
    exact q
theorem me_chain {op op' : CmpOp} {p p' : Int → Int → Bool} {a c d : Expr} {pos : Pos} (ho : OpR X (compareOp op) (rI0 fun i j => .bl (p i j))) (ho' : OpR X (compareOp op') (rI0 fun i j => .bl (p' i j))) (ha : PE X a (tE X.K Z fa)) (hb : PE X c (tE X.K Z fb)) (hc : PE X d (tE X.K Z fc))
    (hm : lastMarks [op, op'] [c, d] = false) : PE X (.Compare a [op, op'] [c, d] pos) (tE X.K Z (evChain p p' fa fb fc)) := pe_imp (pe_chain ho ho' ha hb hc hm) fun σ H Q h => chain_to h
theorem me_chainT {op op' : CmpOp} {p p' : Int → Int → Bool} {a c d : Expr} {pos : Pos} (ho : OpR X (compareOp op) (rI0 fun i j => .bl (p i j))) (ho' : OpR X (compareOp op') (rI0 fun i j => .bl (p' i j))) (ha : PE X a (tE X.K Z fa)) (hb : PE X c (tE X.K Z fb)) (hc : PE X d (tE X.K Z fc))
    (hm : lastMarks [op, op'] [c, d] = false) : PT X (.Compare a [op, op'] [c, d] pos) (tT X.K Z (evB (evChain p p' fa fb fc))) := pt_imp (pt_chain ho ho' ha hb hc hm) fun σ H Q h => chain_to (Q := fun x H' => ∃ k, x = .bl k ∧ Q k H') (test_ok h)
/-- the comparisons of ints that a chain may hold -/
def cmpI : CmpOp → Option (Int → Int → Bool)
  | .Lt => some fun i j => decide (i < j)
  | .LtE => some fun i j => decide (i ≤ j)
  | .Gt => some fun i j => decide (j < i)
  | .GtE => some fun i j => decide (j ≤ i)
  | _ => none
theorem op_cmpI {op : CmpOp} {p : Int → Int → Bool} (h : cmpI op = some p) : OpR X (compareOp op) (rI0 fun i j => .bl (p i j)) := by
  cases op <;> first | (cases h; done) | skip
  · cases h; exact op_lt
  · cases h; exact op_le
  · cases h; exact op_gt
  · cases h; exact op_ge
end
end Mi
set_option Elab.async false
set_option linter.all false
set_option maxRecDepth 100000
set_option autoImplicit false
/-! Mi4: what changes a slot's own list; names stored; calls of the program's own defs, framed -/
namespace Mi
open PySem PySem.Spec L2

/-- another content at a slot's own place -/
def setC (en : Fr) (i : Nat) (d : D) : Fr := match en[i]? with
  | some (.own _) => en.set i (.own d)
  | some (.mu _) => en.set i (.mu d)
  | _ => en
theorem locAt_set {en : Fr} {i j : Nat} {s : Sl} (h : j ≠ i) : locAt (en.set i s) j = locAt en j := by
  unfold locAt; rw [List.getElem?_set_ne (Ne.symm h)]
theorem locAt_set_self {en : Fr} {i : Nat} {s : Sl} (h : i < en.length) : locAt (en.set i s) i = s.loc := by
  unfold locAt; rw [List.getElem?_set_self h]; rfl
theorem lt_of_get {α : Type} {l : List α} {i : Nat} {x : α} (h : l[i]? = some x) : i < l.length := (List.getElem?_eq_some_iff.mp h).1
theorem locAt_lt {en : Fr} {i : Nat} {d : D} (h : locAt en i = some d) : i < en.length := by
  unfold locAt at h
  cases e : en[i]? with
  | none => rw [e] at h; cases h
  | some s => exact lt_of_get e
theorem locAt_cases {en : Fr} {i : Nat} {d : D} (h : locAt en i = some d) : en[i]? = some (.own d) ∨ en[i]? = some (.mu d) := by
  unfold locAt at h
  cases e : en[i]? with
  | none => rw [e] at h; cases h
  | some s =>
    rw [e] at h
    cases s with
    | own x => left; simp [Sl.loc] at h; rw [h]
    | mu x => right; simp [Sl.loc] at h; rw [h]
    | _ => simp [Sl.loc] at h
theorem setC_len {en : Fr} {i : Nat} {d : D} : (setC en i d).length = en.length := by
  unfold setC
  split <;> first | rw [List.length_set] | rfl
theorem setC_ne {en : Fr} {i j : Nat} {d : D} (h : j ≠ i) : (setC en i d)[j]? = en[j]? := by
  unfold setC
  split
  · rw [List.getElem?_set_ne (Ne.symm h)]
  · rw [List.getElem?_set_ne (Ne.symm h)]
  · rfl
theorem setC_own {en : Fr} {i : Nat} {d x : D} (h : en[i]? = some (.own x)) : setC en i d = en.set i (.own d) := by unfold setC; rw [h]
theorem setC_mu {en : Fr} {i : Nat} {d x : D} (h : en[i]? = some (.mu x)) : setC en i d = en.set i (.mu d) := by unfold setC; rw [h]
theorem setC_self {en : Fr} {i : Nat} {d x : D} (h : locAt en i = some x) : locAt (setC en i d) i = some d := by
  have hl := locAt_lt h
  rcases locAt_cases h with e | e
  · rw [setC_own e, locAt_set_self hl]; rfl
  · rw [setC_mu e, locAt_set_self hl]; rfl
theorem setC_val {en : Fr} {i j : Nat} {d x y : D} (h : locAt en i = some x) (e : (setC en i d)[j]? = some (.val y)) : en[j]? = some (.val y) := by
  by_cases hj : j = i
  · subst hj
    have q := setC_self (d := d) h
    rw [locAt_val e] at q; cases q
  · rw [setC_ne hj] at e; exact e
theorem setC_loc {en : Fr} {i j : Nat} {d y : D} (h : j ≠ i) (e : locAt (setC en i d) j = some y) : locAt en j = some y := by
  unfold locAt at e ⊢
  rw [setC_ne h] at e; exact e
theorem setC_hid {b : Bs} {en : Fr} {i : Nat} {d x : D} {oa : Nat → Addr} (h : locAt en i = some x) (a : Addr) : Hid b (setC en i d) oa a ↔ Hid b en oa a := by
  constructor
  · rintro (z | ⟨j, y, e, r⟩)
    · exact .inl z
    · by_cases hj : j = i
      · subst hj; exact .inr ⟨j, x, h, r⟩
      · exact .inr ⟨j, y, setC_loc hj e, r⟩
  · rintro (z | ⟨j, y, e, r⟩)
    · exact .inl z
    · by_cases hj : j = i
      · subst hj; exact .inr ⟨j, d, setC_self h, r⟩
      · refine .inr ⟨j, y, ?_, r⟩
        unfold locAt
        rw [setC_ne hj]; exact e
theorem setC_there {en : Fr} {i j : Nat} {x d y : D} (h : locAt en i = some x) (e : locAt (setC en i d) j = some y) : ∃ z, locAt en j = some z := by
  by_cases hj : j = i
  · subst hj; exact ⟨x, h⟩
  · exact ⟨y, setC_loc hj e⟩
theorem setC_lent {en : Fr} {i j : Nat} {x d : D} (h : locAt en i = some x) (e : (setC en i d)[j]? = some .lent) : en[j]? = some .lent := by
  by_cases hj : j = i
  · subst hj
    have q := setC_self (d := d) h
    unfold locAt at q
    rw [e] at q; cases q
  · rw [setC_ne hj] at e; exact e
theorem hide_congr {H H' : Hp} {S S' : Addr → Prop} (h : ∀ a, S a ↔ S' a) (e : ∀ a, ¬ S a → H a = H' a) : hide H S = hide H' S' := by
  funext a
  by_cases c : S a
  · rw [hide_in c, hide_in ((h a).mp c)]
  · rw [hide_out c, hide_out fun z => c ((h a).mpr z), e a c]

section
variable {K : PySem.W.Frag} {b : Bs} {oa : Nat → Addr} {σ : St} {H : Hp} {en : Fr}
/-- the list of a slot's own is written -/
theorem Sim.write {i : Nat} {x : D} {vs : List V} {ds : List D} (sim : Sim K b oa σ H en) (h : locAt en i = some x) (r : DpAll K (Frz b H en oa) vs ds) :
    Sim K b oa σ (upd H (oa i) (.lst vs)) (setC en i (.list ds)) ∧ Frz b (upd H (oa i) (.lst vs)) (setC en i (.list ds)) oa = Frz b H en oa ∧ Ext b oa H en (upd H (oa i) (.lst vs)) (setC en i (.list ds)) := by
  have fz : Frz b (upd H (oa i) (.lst vs)) (setC en i (.list ds)) oa = Frz b H en oa := hide_congr (setC_hid h) fun a n => upd_ne fun z => n (z ▸ (setC_hid h _).mpr (.inr ⟨i, x, h, rfl⟩))
  have nx : ∀ a, b.xh a → a ≠ oa i := fun a z q => sim.xo i x h (q ▸ z)
  refine ⟨⟨by rw [setC_len]; exact sim.len, fun j d e => ?_, fun j d e => ?_, fun j j' d d' e e' q => ?_, by rw [fz]; exact sim.base, fun j d e => ?_, fun a z => ?_, fun j d e => ?_, fun j e => ?_⟩, fz, ⟨by rw [fz]; exact Same.refl _, fun a z => upd_ne (nx a z)⟩⟩
  · rw [fz]; exact sim.val j d (setC_val h e)
  · by_cases hj : j = i
    · subst hj
      rw [setC_self h] at e
      cases e
      refine ⟨(sim.loc j x h).1, vs, upd_same, ?_⟩
      rw [fz]; exact r
    · have e' := setC_loc hj e
      obtain ⟨h1, h2⟩ := sim.loc j d e'
      refine ⟨h1, ?_⟩
      rw [fz]
      exact h2.mono (Same.refl _) fun o z => (upd_ne fun q => hj (sim.inj j i _ _ e' h q)).trans z
  · obtain ⟨y, e1⟩ := setC_there h e
    obtain ⟨y', e2⟩ := setC_there h e'
    exact sim.inj j j' _ _ e1 e2 q
  · by_cases hj : j = i
    · subst hj
      rcases locAt_cases h with q | q
      · rw [setC_own q, List.getElem?_set_self (locAt_lt h)] at e; cases e
      · exact sim.muA j x q
    · rw [setC_ne hj] at e; exact sim.muA j d e
  · rw [upd_ne (nx a z)]; exact sim.xl a z
  · obtain ⟨y, e1⟩ := setC_there h e
    exact sim.xo j y e1
  · exact sim.lnt j (setC_lent h e)
theorem hid_set {i : Nat} {s : Sl} (hs : s.loc = none) {a : Addr} (h : Hid b (en.set i s) oa a) : Hid b en oa a := by
  rcases h with z | ⟨j, d', h1, h2⟩
  · exact .inl z
  · exact .inr ⟨j, d', (locAt_set_un hs h1).2, h2⟩
/-- a name gets a value -/
theorem Sim.setVal {i : Nat} {v : V} {d : D} (sim : Sim K b oa σ H en) (hi : i < en.length) (r : Dp K (Frz b H en oa) v d) :
    Sim K b oa (σ.set i (some v)) H (en.set i (.val d)) ∧ Ext b oa H en H (en.set i (.val d)) := by
  have sm : Same (Frz b H en oa) (Frz b H (en.set i (.val d)) oa) := hide_mono (fun a o _ e => e) fun a z => .inl (hid_set rfl z)
  have hσ : i < σ.length := by rw [sim.len]; exact hi
  refine ⟨⟨by rw [List.length_set, List.length_set]; exact sim.len, fun j y e => ?_, fun j y e => ?_, fun j j' d' d'' q q' e => ?_, sim.base.trans sm, fun j y e => ?_, sim.xl, fun j y e => sim.xo j y (locAt_set_un rfl e).2, fun j e => by
      rw [List.getElem?_set_ne (Ne.symm (lent_ne (by intro z; cases z) hi e))]
      exact sim.lnt j (lent_set (by intro z; cases z) e)⟩, ⟨sm, fun _ _ => rfl⟩⟩
  · by_cases hj : j = i
    · subst hj
      rw [List.getElem?_set_self hi] at e
      cases e
      exact ⟨v, List.getElem?_set_self hσ, dp_mono sm r⟩
    · rw [List.getElem?_set_ne (Ne.symm hj)] at e
      obtain ⟨u, h1, h2⟩ := sim.val j y e
      exact ⟨u, by rw [List.getElem?_set_ne (Ne.symm hj)]; exact h1, dp_mono sm h2⟩
  · obtain ⟨n, e⟩ := locAt_set_un rfl e
    obtain ⟨h1, h2⟩ := sim.loc j y e
    exact ⟨by rw [List.getElem?_set_ne (Ne.symm n)]; exact h1, h2.mono sm fun o z => z⟩
  · exact sim.inj j j' d' d'' (locAt_set_un rfl q).2 (locAt_set_un rfl q').2 e
  · by_cases hj : j = i
    · subst hj
      rw [List.getElem?_set_self hi] at e; cases e
    · rw [List.getElem?_set_ne (Ne.symm hj)] at e
      exact sim.muA j y e
/-- a name gets a new list of its own -/
theorem Sim.setOwn {i : Nat} {p : Addr} {vs : List V} {ds : List D} (sim : Sim K b oa σ H en) (hi : i < en.length) (hp : H p = none) (r : DpAll K (Frz b H en oa) vs ds) :
    Sim K b (fun j => if j = i then p else oa j) (σ.set i (some (.ref p))) (upd H p (.lst vs)) (en.set i (.own (.list ds))) := by
  have hσ : i < σ.length := by rw [sim.len]; exact hi
  have ne : ∀ {a : Addr} {o : HO}, H a = some o → a ≠ p := fun e => ne_of_none e hp
  have nx : ∀ a, b.xh a → a ≠ p := fun a z => by
    exact ne (sim.xl a z)
  have hl : ∀ {j : Nat} {y : D}, j ≠ i → locAt (en.set i (.own (.list ds))) j = some y → locAt en j = some y := fun n e => by rw [locAt_set n] at e; exact e
  have sm : Same (Frz b H en oa) (Frz b (upd H p (.lst vs)) (en.set i (.own (.list ds))) (fun j => if j = i then p else oa j)) := hide_mono (fun a o _ e => by rw [upd_ne (ne e)]; exact e) fun a z => by
    rcases z with z | ⟨j, d', h1, h2⟩
    · exact .inl (.inl z)
    · by_cases hj : j = i
      · subst hj
        have h2 : (if j = j then p else oa j) = a := h2
        rw [if_pos rfl] at h2
        exact .inr (by rw [← h2]; exact hp)
      · have h2 : (if j = i then p else oa j) = a := h2
        rw [if_neg hj] at h2
        exact .inl (.inr ⟨j, d', hl hj h1, h2⟩)
  refine ⟨by rw [List.length_set, List.length_set]; exact sim.len, fun j y e => ?_, fun j y e => ?_, fun j j' d' d'' q q' e => ?_, sim.base.trans sm, fun j y e => ?_, fun a z => ?_, fun j y e => ?_, fun j e => by
      rw [List.getElem?_set_ne (Ne.symm (lent_ne (by intro z; cases z) hi e))]
      exact sim.lnt j (lent_set (by intro z; cases z) e)⟩
  · by_cases hj : j = i
    · subst hj
      rw [List.getElem?_set_self hi] at e
      cases e
    · rw [List.getElem?_set_ne (Ne.symm hj)] at e
      obtain ⟨u, h1, h2⟩ := sim.val j y e
      exact ⟨u, by rw [List.getElem?_set_ne (Ne.symm hj)]; exact h1, dp_mono sm h2⟩
  · by_cases hj : j = i
    · subst hj
      rw [locAt_set_self hi] at e
      cases e
      rw [if_pos rfl]
      exact ⟨List.getElem?_set_self hσ, vs, upd_same, dpAll_mono sm r⟩
    · have e' := hl hj e
      obtain ⟨h1, h2⟩ := sim.loc j y e'
      rw [if_neg hj]
      exact ⟨by rw [List.getElem?_set_ne (Ne.symm hj)]; exact h1, h2.mono sm fun o z => by rw [upd_ne (ne z)]; exact z⟩
  · by_cases hj : j = i
    · by_cases hj' : j' = i
      · rw [hj, hj']
      · have e : (if j = i then p else oa j) = (if j' = i then p else oa j') := e
        rw [if_pos hj, if_neg hj'] at e
        obtain ⟨o, z⟩ := (sim.loc j' _ (hl hj' q')).2.there
        exact absurd e.symm (ne z)
    · by_cases hj' : j' = i
      · have e : (if j = i then p else oa j) = (if j' = i then p else oa j') := e
        rw [if_neg hj, if_pos hj'] at e
        obtain ⟨o, z⟩ := (sim.loc j _ (hl hj q)).2.there
        exact absurd e (ne z)
      · have e : (if j = i then p else oa j) = (if j' = i then p else oa j') := e
        rw [if_neg hj, if_neg hj'] at e
        exact sim.inj j j' _ _ (hl hj q) (hl hj' q') e
  · by_cases hj : j = i
    · subst hj
      rw [List.getElem?_set_self hi] at e; cases e
    · rw [List.getElem?_set_ne (Ne.symm hj)] at e
      show (if j = i then p else oa j) = b.ma j
      rw [if_neg hj]
      exact sim.muA j y e
  · rw [upd_ne (nx a z)]; exact sim.xl a z
  · show ¬ b.xh (if j = i then p else oa j)
    by_cases hj : j = i
    · rw [if_pos hj]; exact fun z => nx p z rfl
    · rw [if_neg hj]; exact sim.xo j y (hl hj e)
end

/-! ### append, pop -/
/-- the greatest length that a list of the program may come to here -/
def most : Nat := 16000000
theorem most_line {n : Nat} (h : n < most) : n < sizeLine := by
  rw [sizeLine_eq]; unfold most at h; omega
def evApp (i : Nat) (fe : M RV) : M RV := fun en => match locAt en i with
  | none => .err
  | some _ => (fe en).bind fun r en1 => match r, locAt en1 i with
    | .val d _, some (.list ds) => if ds.length < most then .ok (.val .none false) (setC en1 i (.list (ds ++ [d]))) else .err
    | _, _ => .err
def evPop (i : Nat) : M RV := fun en => match locAt en i with
  | some (.list ds) => match ds[ds.length - 1]? with
    | some d => .ok (.val d false) (setC en i (.list ds.dropLast))
    | none => .err
  | _ => .err
def evPop0 (i : Nat) : M RV := fun en => match locAt en i with
  | some (.list (d :: ds)) => .ok (.val d false) (setC en i (.list ds))
  | _ => .err
section
variable {X : Cx} {K : PySem.W.Frag} {Z : ZT} {fa : M RV}
/-- what of a method call is read off the text -/
structure MCall (X : Cx) (o : Expr) (name : Str) (apos cpos : Pos) (es : List Expr) : Prop where
  base : attributeBase o name X.env (eval o X.env) = eval o X.env
  line : (apos.endLine == cpos.line) = true
  few : ((backTo cpos (starEach es X.env)).all (fun x => !x.1) && (backToKw cpos (keywordEach [] X.env)).all (fun x => x.1.isSome)
      && decide (es.length + ([] : List Keyword).length + (if ([] : List Keyword).isEmpty then 0 else 1) < 30)) = true
  star : ∀ e r, es = e :: r → starEach (e :: r) X.env = (false, eval e X.env) :: starEach r X.env ∧ (backTo cpos (starEach r X.env)).any (·.1) = false
theorem me_app {i : Nat} {x : Str} {pos apos cpos : Pos} {e : Expr} (hN : X.N[i]? = some x) (hv : Vis X.env.scope x) (hd : (x == ("__debug__" : Str)) = false) (hcd : (x == ("__classdict__" : Str)) = false) (he : PE X e (tE X.K Z fa)) (m : MCall X (.Name x pos) "append" apos cpos [e]) :
    PE X (.Call (.Attribute (.Name x pos) "append" apos) [e] [] cpos) (tE X.K Z (evApp i fa)) := by
  obtain ⟨hs, hp⟩ := m.star e [] rfl
  refine pe_imp (pe_bm PySem.F.plainAttrs_list PySem.F.slot_list_append PySem.F.type_list_append mt_append (pe_var hN hv hd hcd) (pa_cons he pa_nil hs) m.base m.few m.line hs hp) fun σ H Q h => ?_
  obtain ⟨b, en, oa, sim, h⟩ := h
  unfold evApp at h
  cases e0 : locAt en i with
  | none => rw [e0] at h; exact h.elim
  | some x0 =>
    rw [e0] at h
    simp only at h
    obtain ⟨q1, q2⟩ := sim.loc i x0 e0
    refine ⟨_, q1, ?_, b, en, oa, sim, ?_⟩
    · cases x0 with
      | list ds => obtain ⟨vs, q3, _⟩ := q2; exact .inl ⟨rfl, vs, .inl (.inl q3)⟩
      | _ => exact q2.elim
    cases e1 : fa en with
    | err => rw [e1] at h; exact h.elim
    | exc x en1 => rw [e1] at h; exact h
    | ok r1 en1 =>
      rw [e1] at h
      simp only [Res.bind] at h
      intro v H1 a1
      obtain ⟨s1, x1, rv1⟩ := a1.plain
      cases r1 with
      | loc j => exact h.elim
      | val d fr =>
        cases e2 : locAt en1 i with
        | none => rw [e2] at h; exact h.elim
        | some y =>
          rw [e2] at h
          cases y with
          | list ds =>
            simp only at h
            obtain ⟨_, vs, q3, q4⟩ := s1.loc i _ e2
            by_cases c : ds.length < most
            · rw [if_pos c] at h
              have hr : DpAll X.K (Frz b H1 en1 oa) (vs ++ [v]) (ds ++ [d]) := dpAll_app q4 (.cons rv1 .nil)
              obtain ⟨s2, fz, x2⟩ := s1.write e2 hr
              exact ⟨oa i, vs, v, rfl, rfl, q3, by rw [dpAll_len q4]; exact most_line c, h _ _ ⟨s2, x1.trans x2, .non⟩⟩
            · rw [if_neg c] at h; exact h.elim
          | _ => exact h.elim
theorem me_pop {i : Nat} {x : Str} {pos apos cpos : Pos} (hN : X.N[i]? = some x) (hv : Vis X.env.scope x) (hd : (x == ("__debug__" : Str)) = false) (hcd : (x == ("__classdict__" : Str)) = false) (m : MCall X (.Name x pos) "pop" apos cpos []) :
    PE X (.Call (.Attribute (.Name x pos) "pop" apos) [] [] cpos) (tE X.K Z (evPop i)) := by
  refine pe_imp (pe_bm0 PySem.F.plainAttrs_list PySem.F.slot_list_pop PySem.F.type_list_pop mt_pop (pe_var hN hv hd hcd) m.base m.line) fun σ H Q h => ?_
  obtain ⟨b, en, oa, sim, h⟩ := h
  unfold evPop at h
  cases e0 : locAt en i with
  | none => rw [e0] at h; exact h.elim
  | some x0 =>
    rw [e0] at h
    cases x0 with
    | list ds =>
      simp only at h
      obtain ⟨q1, vs, q3, q4⟩ := sim.loc i _ e0
      cases e1 : ds[ds.length - 1]? with
      | none => rw [e1] at h; exact h.elim
      | some d =>
        rw [e1] at h
        obtain ⟨v, e2, r⟩ := dpAll_get q4 e1
        obtain ⟨s2, fz, x2⟩ := sim.write e0 (dpAll_dropLast q4)
        refine ⟨_, q1, .inl ⟨rfl, vs, .inl (.inl q3)⟩, oa i, vs, v, rfl, rfl, q3, by rw [dpAll_len q4]; exact e2, h _ _ ⟨s2, x2, ?_⟩⟩
        show Dp X.K (Frz _ _ _ oa) v d
        rw [fz]; exact r
    | _ => exact h.elim
theorem me_pop0 {i : Nat} {x : Str} {pos apos cpos : Pos} {j : Nat} {cp : Pos} (hN : X.N[i]? = some x) (hv : Vis X.env.scope x) (hd : (x == ("__debug__" : Str)) = false) (hcd : (x == ("__classdict__" : Str)) = false) (m : MCall X (.Name x pos) "pop" apos cpos [.Constant (.int 0) j cp]) :
    PE X (.Call (.Attribute (.Name x pos) "pop" apos) [.Constant (.int 0) j cp] [] cpos) (tE X.K Z (evPop0 i)) := by
  obtain ⟨hs, hp⟩ := m.star _ [] rfl
  refine pe_imp (pe_bm PySem.F.plainAttrs_list PySem.F.slot_list_pop PySem.F.type_list_pop mt_popAt (pe_var hN hv hd hcd) (pa_cons pe_int pa_nil hs) m.base m.few m.line hs hp) fun σ H Q h => ?_
  obtain ⟨b, en, oa, sim, h⟩ := h
  unfold evPop0 at h
  cases e0 : locAt en i with
  | none => rw [e0] at h; exact h.elim
  | some x0 =>
    rw [e0] at h
    cases x0 with
    | list ds =>
      cases ds with
      | nil => exact h.elim
      | cons d ds =>
        simp only at h
        obtain ⟨q1, vs, q3, q4⟩ := sim.loc i _ e0
        cases q4 with
        | cons r q4 =>
          rename_i v vs
          obtain ⟨s2, fz, x2⟩ := sim.write e0 q4
          refine ⟨_, q1, .inl ⟨rfl, v :: vs, .inl (.inl q3)⟩, oa i, v :: vs, 0, 0, v, rfl, rfl, q3, by decide, by decide, ?_, rfl, h _ _ ⟨s2, ?_, ?_⟩⟩
          · exact (ixN_seq (j := 0) (by unfold ixN; rw [if_pos (by decide), if_pos (by rw [List.length_cons]; omega)]; rfl)).1
          · exact x2
          · show Dp X.K (Frz b (upd H (oa i) (.lst vs)) (setC en i (.list ds)) oa) v d
            rw [fz]; exact r
    | _ => exact h.elim
end

/-! ### the frame rule: what a callee is not told of stays as it is -/
noncomputable def join (H : Hp) (S : Addr → Prop) (H' : Hp) : Hp := fun a => open Classical in if S a then H a else H' a
theorem join_in {H H' : Hp} {S : Addr → Prop} {a : Addr} (h : S a) : join H S H' a = H a := by unfold join; rw [if_pos h]
theorem join_out {H H' : Hp} {S : Addr → Prop} {a : Addr} (h : ¬ S a) : join H S H' a = H' a := by unfold join; rw [if_neg h]
def spFrame (sp : Sp) : Sp := fun vs H Q E => ∃ S : Addr → Prop, (∀ a, S a → ∃ xs, H a = some (.lst xs)) ∧ sp vs (hide H S) (fun v H' => (∀ a, S a → H' a = none) → Q v (join H S H')) E
/-- what is asked of how exceptions lie -/
def Framed (CX : CXT) : Prop := ∀ (outer : List PySem.Env) (H : Hp) (S : Addr → Prop) (s : Shared) (E : XK) (e : Value) (s' : Shared), (∀ a, S a → ∃ xs, H a = some (.lst xs)) → CX outer (hide H S) s E e s' → CX outer H s E e s'
theorem framed0 : Framed CX0 := fun _ _ _ _ _ _ _ _ h => h
theorem fn_frame {P : Program} {w : World} {K : PySem.W.Frag} {mg : Str → Option Value} {base : Heap} {CX : CXT} {k : Nat} {f : Addr} {fd : FuncData} {ps : List Str} {sp : Sp} (F : FnOk P w K mg base CX k f fd ps sp) (hCX : Framed CX) :
    FnOk P w K mg base CX k f fd ps (spFrame sp) := by
  refine ⟨fun vs H Q E ⟨S, _, h⟩ => F.len _ _ _ _ h, fun A outer s H args us vs Q E hr e0 hb rv ⟨S, hS, h⟩ => ?_⟩
  have nS : ∀ {a : Addr} {o : HO}, H a = some o → (∀ xs, o ≠ .lst xs) → ¬ S a := fun {a o} e n z => by
    obtain ⟨xs, q⟩ := hS a z
    rw [e] at q; cases q; exact n xs rfl
  have nO : ∀ {a : Addr}, H a = none → ¬ S a := fun {a} e z => by
    obtain ⟨xs, q⟩ := hS a z
    rw [e] at q; cases q
  have hn : ∀ {a : Addr}, H a = none → hide H S a = none := fun {a} e => by rw [hide_out (nO e)]; exact e
  have e1 : Env0 P w K mg base A outer s (hide H S) := ⟨e0.frames, e0.mod, fun b o e => ⟨(e0.bs b o e).1, hn (e0.bs b o e).2⟩, e0.bsz, e0.funs, fun b hb => hn (e0.frf b hb), fun a o e => by
    obtain ⟨n, e⟩ := hide_some e
    refine (e0.hok a o e).stay (fun b u _ q => q) (fun b q => ?_) fun b xs q => ?_
    · rw [hide_out (nS q fun _ z => by cases z)]; exact q
    · rw [hide_out (nS q fun _ z => by cases z)]; exact q, e0.bare⟩
  refine codeAny_mono (F.run A outer s (hide H S) args us vs _ E hr e1 hb rv h) fun r s' hq => ?_
  cases r with
  | error e => exact hCX outer H S s E e s' hS hq
  | ok fl =>
    cases fl with
    | ret u =>
      obtain ⟨v, H', os, bare, un, hok, r, q⟩ := hq
      have there : ∀ a, S a → ∃ o, s.heap.get? a = some o := fun a z => by
        obtain ⟨xs, e⟩ := hS a z
        obtain ⟨_, its, n, _, e⟩ := e0.hok a _ e
        exact ⟨_, e⟩
      have gone : ∀ a, S a → H' a = none := fun a z => by
        obtain ⟨o, e⟩ := there a z
        exact un.free a o e (hide_in z) (by simp)
      have nfs : ∀ a, S a → a ∉ frs outer := fun a z hb => by
        obtain ⟨xs, e⟩ := hS a z
        rw [e0.frf a hb] at e; cases e
      have nH' : ∀ {a : Addr} {o : HO}, H' a = some o → ¬ S a := fun {a o} e z => by rw [gone a z] at e; cases e
      refine ⟨v, join H S H', os, bare, ⟨fun a o e n h1 h2 => un.keep a o e (hn n) h1 h2, fun a o e n h1 h2 => un.slot a o e (hn n) h1 h2, fun a o e n h2 => ?_, un.there, fun a xs e => ?_, fun a o u e => ?_, fun a ps e => ?_⟩, fun a o e => ?_, r, q gone⟩
      · rw [join_out (nO n)]; exact un.free a o e (hn n) h2
      · have z := nS e fun _ z => by cases z
        rw [join_out z]
        exact un.tups a xs (by rw [hide_out z]; exact e)
      · have z := nS e fun _ z => by cases z
        rw [join_out z]
        exact un.frzs a o u (by rw [hide_out z]; exact e)
      · have z := nS e fun _ z => by cases z
        rw [join_out z]
        exact un.tbls a ps (by rw [hide_out z]; exact e)
      · by_cases z : S a
        · rw [join_in z] at e
          obtain ⟨xs, e2⟩ := hS a z
          rw [e2] at e
          cases e
          obtain ⟨hz, its, n, rr, e3⟩ := e0.hok a _ e2
          exact ⟨hz, its, n, rr, un.keep a _ e3 (hide_in z) (nfs a z) (by simp)⟩
        · rw [join_out z] at e
          refine (hok a o e).stay (fun c u _ q => q) (fun c q => ?_) fun c xs q => ?_
          · rw [join_out (nH' q)]; exact q
          · rw [join_out (nH' q)]; exact q
    | next => exact hq
    | brk => exact hq
    | cont => exact hq
end Mi
set_option Elab.async false
set_option linter.all false
set_option maxRecDepth 100000
set_option autoImplicit false
/-! Mi5: the promise of a def by a mini function; its call -/
namespace Mi
open PySem PySem.Spec L2

/-- what a def makes: a value (fr: a new list), and what its first argument holds now, if that is a list that may change -/
inductive FRes where
  | ok (d : D) (fr : Bool) (out : Option D) | exc (x : Exc) (out : Option D) | err
/-- the content of the first argument, if that may change; the other arguments -/
abbrev FSem := Option D → List D → FRes
/-- the place of the argument that may change -/
def MaAt (ma : Option (Addr × D)) (x : Addr) : Prop := ∃ d, ma = some (x, d)
noncomputable abbrev FrzM (H : Hp) (ma : Option (Addr × D)) : Hp := hide H (MaAt ma)
/-- what holds of the heap behind: all of F stands; the argument holds what it is said to -/
structure FinM (K : PySem.W.Frag) (F : Hp) (ma : Option (Addr × D)) (out : Option D) (G : Hp) : Prop where
  same : Same F (FrzM G ma)
  cont : ∀ a m, ma = some (a, m) → ∃ m', out = some m' ∧ Cont K (FrzM G ma) G a m'
def FAft (K : PySem.W.Frag) (F : Hp) (ma : Option (Addr × D)) (out : Option D) (v : V) (H' : Hp) : D → Bool → Prop
  | d, true => ∃ G p vs ds, v = .ref p ∧ d = .list ds ∧ G p = none ∧ H' = upd G p (.lst vs) ∧ FinM K F ma out G ∧ DpAll K (FrzM G ma) vs ds
  | d, false => FinM K F ma out H' ∧ Dp K (FrzM H' ma) v d
def argsM (ma : Option (Addr × D)) (ws : List V) : List V := match ma with
  | some (a, _) => .ref a :: ws
  | none => ws
def spM (K : PySem.W.Frag) (n : Nat) (g : FSem) : Sp := fun vs H Q E => ∃ (ma : Option (Addr × D)) (ws : List V) (ds : List D), vs = argsM ma ws ∧ vs.length = n ∧ (∀ a m, ma = some (a, m) → Cont K (FrzM H ma) H a m) ∧ DpAll K (FrzM H ma) ws ds ∧
  match g (ma.map (·.2)) ds with
  | .ok d fr out => ∀ v H', FAft K (FrzM H ma) ma out v H' d fr → Q v H'
  | _ => False

/-- the first argument may be a slot's own list, the others are data -/
def splitRs : List RV → Option (Option Nat × List D)
  | .loc i :: rs => (valDs rs).map fun ds => (some i, ds)
  | rs => (valDs rs).map fun ds => (none, ds)
def putOut (en : Fr) (i : Nat) : Option D → Fr
  | some d => setC en i d
  | none => en
def evUser (g : FSem) (fs : List (M RV)) : M RV := fun en => (evAll fs en).bind fun rs en1 => match splitRs rs with
  | some (none, ds) => match g none ds with
    | .ok d fr _ => .ok (.val d fr) en1
    | .exc x _ => .exc x en1
    | .err => .err
  | some (some i, ds) => match locAt en1 i with
    | some m => match g (some m) ds with
      | .ok d fr (some (.list ms)) => .ok (.val d fr) (setC en1 i (.list ms))
      | .exc x (some (.list ms)) => .exc x (setC en1 i (.list ms))
      | _ => .err
    | none => .err
  | none => .err
/-- a def of the top, with what it makes -/
structure FnHas (P : Program) (w : World) (K : PySem.W.Frag) (mg : Str → Option Value) (base : Heap) (k : Nat) (x : Str) (n : Nat) (g : FSem) : Prop where
  ex : ∃ f fd ps, mg x = some (.ref f) ∧ PySem.W.keepIn K (.ref f) = true ∧ Binds K fd ps [] ∧ FnOk P w K mg base CX0 k f fd ps (spM K n g)
theorem FnHas.mono {P : Program} {w : World} {K : PySem.W.Frag} {mg : Str → Option Value} {base : Heap} {j k : Nat} {x : Str} {n : Nat} {g : FSem} (h : FnHas P w K mg base j x n g) (l : j ≤ k) : FnHas P w K mg base k x n g := by
  obtain ⟨f, fd, ps, a, c, d, e⟩ := h.ex
  exact ⟨f, fd, ps, a, c, d, e.mono l⟩

section
variable {X : Cx} {K : PySem.W.Frag} {Z : ZT} {fa : M RV}
theorem splitRs_loc {rs : List RV} {i : Nat} {ds : List D} (h : splitRs rs = some (some i, ds)) : ∃ rs', rs = .loc i :: rs' ∧ valDs rs' = some ds := by
  unfold splitRs at h
  split at h
  · rename_i j rs'
    cases e : valDs rs' with
    | none => rw [e] at h; cases h
    | some es => rw [e] at h; cases h; exact ⟨rs', rfl, e⟩
  · rename_i rs' _
    cases e : valDs rs with
    | none => rw [e] at h; cases h
    | some es => rw [e] at h; cases h
theorem splitRs_none {rs : List RV} {ds : List D} (h : splitRs rs = some (none, ds)) : valDs rs = some ds := by
  unfold splitRs at h
  split at h
  · rename_i j rs'
    cases e : valDs rs' with
    | none => rw [e] at h; cases h
    | some es => rw [e] at h; cases h
  · cases e : valDs rs with
    | none => rw [e] at h; cases h
    | some es => rw [e] at h; cases h; rfl
theorem hide_hide {H : Hp} {S T : Addr → Prop} : hide (hide H S) T = hide H (fun a => S a ∨ T a) := by
  funext a
  by_cases c : T a
  · rw [hide_in c, hide_in (.inr c)]
  · rw [hide_out c]
    by_cases d : S a
    · rw [hide_in d, hide_in (.inl d)]
    · rw [hide_out d, hide_out fun z => z.elim d c]
theorem join_upd {H G : Hp} {S : Addr → Prop} {p : Addr} {o : HO} (h : ¬ S p) : join H S (upd G p o) = upd (join H S G) p o := by
  funext a
  by_cases e : a = p
  · subst e; rw [join_out h, upd_same, upd_same]
  · rw [upd_ne e]
    by_cases c : S a
    · rw [join_in c, join_in c]
    · rw [join_out c, join_out c, upd_ne e]
/-- behind a call, in the caller's eyes -/
theorem call_back {b : Bs} {oa : Nat → Addr} {σ : St} {H : Hp} {en en' : Fr} {ma : Option (Addr × D)} {out : Option D} {S : Addr → Prop} (sim : Sim K b oa σ H en) (hS : ∀ a, Hid b en oa a ↔ (S a ∨ MaAt ma a)) (hd : ∀ a, S a → ¬ MaAt ma a)
    (hen : (ma = none ∧ en' = en) ∨ ∃ i m m', ma = some (oa i, m) ∧ out = some (.list m') ∧ locAt en i = some m ∧ en' = setC en i (.list m'))
    {G : Hp} (fin : FinM K (FrzM (hide H S) ma) ma out G) (gone : ∀ a, S a → G a = none) : Sim K b oa σ (join H S G) en' ∧ Frz b (join H S G) en' oa = FrzM G ma ∧ Ext b oa H en (join H S G) en' := by
  have hid' : ∀ a, Hid b en' oa a ↔ Hid b en oa a := fun a => by
    rcases hen with ⟨_, rfl⟩ | ⟨i, m, m', _, _, hl, rfl⟩
    · exact Iff.rfl
    · exact setC_hid hl a
  have f1 : FrzM (hide H S) ma = Frz b H en oa := by
    show hide (hide H S) _ = hide H _
    rw [hide_hide]
    exact hide_congr (fun a => (hS a).symm) fun _ _ => rfl
  have f2 : Frz b (join H S G) en' oa = FrzM G ma := by
    funext a
    by_cases c : Hid b en' oa a
    · rw [frz_in c]
      by_cases z : MaAt ma a
      · exact (hide_in z).symm
      · rw [show FrzM G ma a = G a from hide_out z]
        rcases (hS a).mp ((hid' a).mp c) with q | q
        · exact (gone a q).symm
        · exact absurd q z
    · have c' : ¬ (S a ∨ MaAt ma a) := fun z => c ((hid' a).mpr ((hS a).mpr z))
      rw [frz_out c, join_out fun z => c' (.inl z)]
      exact (hide_out fun z => c' (.inr z)).symm
  have sm : Same (Frz b H en oa) (Frz b (join H S G) en' oa) := by
    rw [f2, ← f1]; exact fin.same
  have xs : ∀ a, b.xh a → S a := fun a z => ((hS a).mp (.inl z)).resolve_right fun ⟨m, q⟩ => by
    rcases hen with ⟨e, _⟩ | ⟨i, m1, m', e, _, hl, _⟩
    · rw [e] at q; cases q
    · rw [e] at q
      injection q with q
      injection q with q
      exact sim.xo i m1 hl (q ▸ z)
  have xk : ∀ a, b.xh a → join H S G a = H a := fun a z => join_in (xs a z)
  have old : ∀ {j : Nat} {y : D}, locAt en j = some y → (∀ m, ma ≠ some (oa j, m)) → Cont K (Frz b (join H S G) en' oa) (join H S G) (oa j) y := fun {j y} e n => by
    refine (sim.loc j y e).2.mono sm fun o z => ?_
    have hs : S (oa j) := ((hS (oa j)).mp (.inr ⟨j, y, e, rfl⟩)).resolve_right fun ⟨m, q⟩ => n m q
    rw [join_in hs]; exact z
  have xl : ∀ a, b.xh a → join H S G a = some (.lst (b.xc a)) := fun a z => (xk a z).trans (sim.xl a z)
  refine ⟨?_, f2, ⟨sm, xk⟩⟩
  rcases hen with ⟨rfl, rfl⟩ | ⟨i, m, m', rfl, rfl, hl, rfl⟩
  · exact ⟨sim.len, fun j d e => by
      obtain ⟨v, h1, h2⟩ := sim.val j d e
      exact ⟨v, h1, dp_mono sm h2⟩, fun j d e => ⟨(sim.loc j d e).1, old e fun m z => by cases z⟩, sim.inj, sim.base.trans sm, sim.muA, xl, sim.xo, sim.lnt⟩
  · refine ⟨by rw [setC_len]; exact sim.len, fun j d e => ?_, fun j d e => ?_, fun j j' d d' e e' q => ?_, sim.base.trans sm, fun j d e => ?_, xl, fun j d e => ?_, fun j e => sim.lnt j (setC_lent hl e)⟩
    · obtain ⟨v, h1, h2⟩ := sim.val j d (setC_val hl e)
      exact ⟨v, h1, dp_mono sm h2⟩
    · by_cases hj : j = i
      · subst hj
        rw [setC_self hl] at e
        cases e
        refine ⟨(sim.loc j m hl).1, ?_⟩
        obtain ⟨m'', e2, c⟩ := fin.cont _ _ rfl
        cases e2
        rw [f2]
        refine c.mono (Same.refl _) fun o z => ?_
        rw [join_out fun q => hd _ q ⟨m, rfl⟩]; exact z
      · have e' := setC_loc hj e
        refine ⟨(sim.loc j d e').1, old e' fun m2 z => ?_⟩
        have q : oa i = oa j := by injection z with z; injection z
        exact hj (sim.inj i j _ _ hl e' q).symm
    · obtain ⟨y, e1⟩ := setC_there hl e
      obtain ⟨y', e2⟩ := setC_there hl e'
      exact sim.inj j j' _ _ e1 e2 q
    · by_cases hj : j = i
      · subst hj
        rcases locAt_cases hl with q | q
        · rw [setC_own q, List.getElem?_set_self (locAt_lt hl)] at e; cases e
        · exact sim.muA j m q
      · rw [setC_ne hj] at e; exact sim.muA j d e
    · obtain ⟨y, e1⟩ := setC_there hl e
      exact sim.xo j y e1
theorem aft_back {b : Bs} {oa : Nat → Addr} {σ : St} {H : Hp} {en en' : Fr} {ma : Option (Addr × D)} {out : Option D} {S : Addr → Prop} {v : V} {H' : Hp} {d : D} {fr : Bool} (sim : Sim K b oa σ H en) (hS : ∀ a, Hid b en oa a ↔ (S a ∨ MaAt ma a)) (hd : ∀ a, S a → ¬ MaAt ma a)
    (hen : (ma = none ∧ en' = en) ∨ ∃ i m m', ma = some (oa i, m) ∧ out = some (.list m') ∧ locAt en i = some m ∧ en' = setC en i (.list m'))
    (h : FAft K (FrzM (hide H S) ma) ma out v H' d fr) (gone : ∀ a, S a → H' a = none) : Aft K b oa σ H en v (join H S H') (.val d fr) en' := by
  cases fr with
  | false =>
    obtain ⟨fin, r⟩ := h
    obtain ⟨s1, f2, sm⟩ := call_back sim hS hd hen fin gone
    refine ⟨s1, sm, ?_⟩
    show Dp K (Frz _ _ _ oa) v d
    rw [f2]; exact r
  | true =>
    obtain ⟨G, p, vs, ds, rfl, rfl, hp, rfl, fin, r⟩ := h
    have nSp : ¬ S p := fun z => by
      have q := gone p z
      rw [upd_same] at q; cases q
    have gone' : ∀ a, S a → G a = none := fun a z => by
      have q := gone a z
      rw [upd_ne fun e => nSp (by rw [← e]; exact z)] at q; exact q
    obtain ⟨s1, f2, sm⟩ := call_back sim hS hd hen fin gone'
    refine ⟨join H S G, p, vs, ds, rfl, rfl, by rw [join_out nSp]; exact hp, join_upd nSp, s1, sm, ?_⟩
    rw [f2]; exact r
/-- what a call reads -/
theorem user_ok {σ : St} {H : Hp} {Q : VK} {n : Nat} {g : FSem} {fs : List (M RV)} (hn : fs.length = n) (hx : ∀ mo ds x o, g mo ds ≠ .exc x o) (h : tE K Z (evUser g fs) σ H Q) :
    tCall (spFrame (spM K n g)) [] E0 (tAs K Z (evAll fs)) σ H Q := by
  obtain ⟨b, en, oa, sim, h⟩ := h
  refine ⟨b, en, oa, sim, ?_⟩
  unfold evUser at h
  cases e1 : evAll fs en with
  | err => rw [e1] at h; exact h.elim
  | exc x en1 => rw [e1] at h; exact h
  | ok rs en1 =>
    rw [e1] at h
    simp only [Res.bind] at h
    intro vs H1 s1 x1 r1
    rw [List.append_nil]
    have rl : ∀ {vs : List V} {rs : List RV}, RvAll K b oa H1 en1 vs rs → vs.length = rs.length := fun {vs rs} r => by
      induction r with
      | nil => rfl
      | cons _ _ ih => rw [List.length_cons, List.length_cons, ih]
    have hl : vs.length = n := by rw [rl r1, evAll_len e1, hn]
    have lst : ∀ a, Hid b en1 oa a → ∃ xs, H1 a = some (.lst xs) := fun a z => s1.lstAt z
    cases e2 : splitRs rs with
    | none => rw [e2] at h; exact h.elim
    | some p =>
      obtain ⟨o, ds⟩ := p
      rw [e2] at h
      cases o with
      | none =>
        simp only at h
        have dp := dpAll_of r1 (splitRs_none e2)
        have f1 : FrzM (hide H1 (Hid b en1 oa)) none = Frz b H1 en1 oa := by
          show hide (hide H1 _) _ = hide H1 _
          rw [hide_hide]
          exact hide_congr (fun a => ⟨fun z => z.elim id fun ⟨d, q⟩ => (by cases q), .inl⟩) fun _ _ => rfl
        refine ⟨Hid b en1 oa, lst, none, vs, ds, rfl, hl, fun a m z => (by cases z), by rw [f1]; exact dp, ?_⟩
        show match g none ds with
          | .ok d fr out => ∀ v H', FAft K (FrzM (hide H1 (Hid b en1 oa)) none) none out v H' d fr → (∀ a, Hid b en1 oa a → H' a = none) → Q v (join H1 (Hid b en1 oa) H')
          | _ => False
        cases e3 : g none ds with
        | err => rw [e3] at h; exact h
        | exc x o => exact (hx _ _ _ _ e3).elim
        | ok d fr out =>
          rw [e3] at h
          exact fun v H' fa gone => h v _ ((aft_back s1 (ma := none) (out := out) (fun a => ⟨.inl, fun z => z.elim id fun ⟨d, q⟩ => (by cases q)⟩) (fun a _ ⟨d, q⟩ => (by cases q)) (.inl ⟨rfl, rfl⟩) fa gone).from x1)
      | some i =>
        simp only at h
        obtain ⟨rs', rfl, e3⟩ := splitRs_loc e2
        cases r1 with
        | cons rv r1 =>
          rename_i v0 ws
          have ev : v0 = .ref (oa i) := rv
          subst ev
          have dp := dpAll_of r1 e3
          cases e4 : locAt en1 i with
          | none => rw [e4] at h; exact h.elim
          | some m =>
            rw [e4] at h
            simp only at h
            have hh : Hid b en1 oa (oa i) := .inr ⟨i, m, e4, rfl⟩
            let S : Addr → Prop := fun a => Hid b en1 oa a ∧ a ≠ oa i
            have hS : ∀ a, Hid b en1 oa a ↔ (S a ∨ MaAt (some (oa i, m)) a) := fun a => by
              constructor
              · intro z
                by_cases q : a = oa i
                · exact .inr ⟨m, by rw [q]⟩
                · exact .inl ⟨z, q⟩
              · rintro (z | ⟨d, q⟩)
                · exact z.1
                · injection q with q; injection q with q; rw [← q]; exact hh
            have hd : ∀ a, S a → ¬ MaAt (some (oa i, m)) a := fun a z ⟨d, q⟩ => by injection q with q; injection q with q; exact z.2 q.symm
            have f1 : FrzM (hide H1 S) (some (oa i, m)) = Frz b H1 en1 oa := by
              show hide (hide H1 S) _ = hide H1 _
              rw [hide_hide]
              exact hide_congr (fun a => (hS a).symm) fun _ _ => rfl
            refine ⟨S, fun a z => lst a z.1, some (oa i, m), ws, ds, rfl, hl, fun a m' z => ?_, by rw [f1]; exact dp, ?_⟩
            · injection z with z; injection z with z1 z2
              subst z1; subst z2
              rw [f1]
              exact (s1.loc i m e4).2.mono ((Same.refl _)) fun o z => by rw [hide_out fun q => q.2 rfl]; exact z
            · show match g (some m) ds with
                | .ok d fr out => ∀ v H', FAft K (FrzM (hide H1 S) (some (oa i, m))) (some (oa i, m)) out v H' d fr → (∀ a, S a → H' a = none) → Q v (join H1 S H')
                | _ => False
              cases e5 : g (some m) ds with
              | err => rw [e5] at h; exact h
              | exc x o => exact (hx _ _ _ _ e5).elim
              | ok d fr out =>
                rw [e5] at h
                cases out with
                | none => exact h.elim
                | some m' =>
                  cases m' with
                  | list ms => exact fun v H' fa gone => h v _ ((aft_back s1 hS hd (.inr ⟨i, m, ms, rfl, rfl, e4, rfl⟩) fa gone).from x1)
                  | _ => exact h.elim
theorem me_call {x : Str} {k n : Nat} {g : FSem} {p pos : Pos} {e : Expr} {es : List Expr} {fs : List (M RV)} (F : FnHas X.prog X.w X.K X.mg X.base k x n g) (hx : ∀ mo ds x o, g mo ds ≠ .exc x o) (hr : Room k X.A) (hg : Gl X x) (hn : fs.length = n) (ha : PA X (e :: es) (tAs X.K Z (evAll fs)))
    (hdb : (x == ("__debug__" : Str)) = false) (he : starEach (e :: es) X.env = (false, eval e X.env) :: starEach es X.env) (hpl : (backTo pos (starEach es X.env)).any (·.1) = false) : PE X (.Call (.Name x p) (e :: es) [] pos) (tE X.K Z (evUser g fs)) := by
  obtain ⟨f, fd, ps, hm, hk, hb, hf⟩ := F.ex
  refine pe_imp (pe_call (fn_frame hf framed0) hr hg hm hk hb .nil pass0 ha hdb he hpl) fun σ H Q h => ?_
  exact user_ok hn hx h
theorem me_call0 {x : Str} {k : Nat} {g : FSem} {p pos : Pos} (F : FnHas X.prog X.w X.K X.mg X.base k x 0 g) (hx : ∀ mo ds x o, g mo ds ≠ .exc x o) (hr : Room k X.A) (hg : Gl X x) (hdb : (x == ("__debug__" : Str)) = false) : PE X (.Call (.Name x p) [] [] pos) (tE X.K Z (evUser g [])) := by
  obtain ⟨f, fd, ps, hm, hk, hb, hf⟩ := F.ex
  refine pe_imp (pe_call0 (fn_frame hf framed0) hr hg hm hk hb .nil pass0 hdb) fun σ H Q h => ?_
  have q := user_ok (n := 0) rfl hx h
  obtain ⟨b, en, oa, sim, q⟩ := q
  exact q [] H sim (Ext.refl) .nil
end
end Mi
set_option Elab.async false
set_option linter.all false
set_option maxRecDepth 100000
set_option autoImplicit false
/-! Mi6: targets, what is walked -/
namespace Mi
open PySem PySem.Spec L2

/-! ### targets -/
def tG (K : PySem.W.Frag) (sl : List Nat) (f : D → M Unit) : TG := fun v σ H Q => ∃ b en oa d, Sim K b oa σ H en ∧ Dp K (Frz b H en oa) v d ∧ match f d en with
  | .ok _ en' => ∀ σ' H', Sim K b oa σ' H' en' → Ext b oa H en H' en' → (∀ j, j ∉ sl → σ'[j]? = σ[j]?) → σ'.length = σ.length → Q σ' H'
  | _ => False
def tGs (K : PySem.W.Frag) (sl : List Nat) (f : List D → M Unit) : TGs := fun vs σ H Q => ∃ b en oa ds, Sim K b oa σ H en ∧ DpAll K (Frz b H en oa) vs ds ∧ match f ds en with
  | .ok _ en' => ∀ σ' H', Sim K b oa σ' H' en' → Ext b oa H en H' en' → (∀ j, j ∉ sl → σ'[j]? = σ[j]?) → σ'.length = σ.length → Q σ' H'
  | _ => False
def tgName (i : Nat) (d : D) : M Unit := fun en => match en[i]? with
  | some (.mu _) => .err
  | some _ => .ok () (en.set i (.val d))
  | none => .err
def tgsNil (ds : List D) : M Unit := fun en => match ds with
  | [] => .ok () en
  | _ :: _ => .err
def tgsCons (f : D → M Unit) (g : List D → M Unit) (ds : List D) : M Unit := fun en => match ds with
  | d :: r => (f d en).bind fun _ en1 => g r en1
  | [] => .err
def tgTup (n : Nat) (g : List D → M Unit) (d : D) : M Unit := fun en => match d with
  | .tuple ds => if ds.length = n then g ds en else .err
  | _ => .err
theorem pg_imp {X : Cx} {e : Expr} {t t' : TG} (h : PG X e t) (i : ∀ v σ H Q, t' v σ H Q → t v σ H Q) : PG X e t' := ⟨fun pins s σ H v u Q I r hw => h.run pins s σ H v u Q I r (i v σ H Q hw)⟩
theorem pgs_imp {X : Cx} {e : List Expr} {t t' : TGs} (h : PGs X e t) (i : ∀ v σ H Q, t' v σ H Q → t v σ H Q) : PGs X e t' := ⟨fun pins s σ H v u Q I r hw => h.run pins s σ H v u Q I r (i v σ H Q hw)⟩
section
variable {X : Cx}
theorem mg_name {i : Nat} {x : Str} {pos : Pos} (hN : X.N.Nodup) (hi : X.N[i]? = some x) (hx : Loc X.env.scope x) (hf : X.fn x = true ∨ X.env.scope.names.lookup x = some .local) : PG X (.Name x pos) (tG X.K [i] (tgName i)) := by
  refine pg_imp (pg_name hN hi hx hf) fun v σ H Q h => ?_
  obtain ⟨b, en, oa, d, sim, r, h⟩ := h
  unfold tgName at h
  cases e : en[i]? with
  | none => rw [e] at h; exact h.elim
  | some s =>
    have hl := lt_of_get e
    rw [e] at h
    have key : (∀ σ' H', Sim X.K b oa σ' H' (en.set i (.val d)) → Ext b oa H en H' (en.set i (.val d)) → (∀ j, j ∉ [i] → σ'[j]? = σ[j]?) → σ'.length = σ.length → Q σ' H') → gName i v σ H Q := fun h => by
      obtain ⟨s1, x1⟩ := sim.setVal hl r
      exact h _ H s1 x1 (fun j n => List.getElem?_set_ne (fun z => n (by rw [z]; exact List.mem_singleton.mpr rfl))) (List.length_set)
    cases s with
    | mu x => exact h.elim
    | _ => exact key h
theorem mgs_nil : PGs X [] (tGs X.K [] tgsNil) := pgs_imp pgs_nil fun vs σ H Q h => by
  obtain ⟨b, en, oa, ds, sim, r, h⟩ := h
  cases r with
  | nil => exact ⟨rfl, h σ H sim Ext.refl (fun _ _ => rfl) rfl⟩
  | cons _ _ => exact h.elim
theorem mgs_cons {e : Expr} {es : List Expr} {s1 s2 : List Nat} {f : D → M Unit} {g : List D → M Unit} (h1 : PG X e (tG X.K s1 f)) (h2 : PGs X es (tGs X.K s2 g))
    (hs : (assignEach (e :: es) X.env).map (·.2) = assign e X.env :: (assignEach es X.env).map (·.2)) : PGs X (e :: es) (tGs X.K (s1 ++ s2) (tgsCons f g)) := by
  refine pgs_imp (pgs_cons h1 h2 hs) fun vs σ H Q h => ?_
  obtain ⟨b, en, oa, ds, sim, r, h⟩ := h
  cases r with
  | nil => exact h.elim
  | cons r rr =>
    rename_i v vs d ds
    refine ⟨v, vs, rfl, b, en, oa, d, sim, r, ?_⟩
    unfold tgsCons at h
    simp only at h
    cases e1 : f d en with
    | err => rw [e1] at h; exact h
    | exc x en1 => rw [e1] at h; exact h
    | ok u en1 =>
      rw [e1] at h
      simp only [Res.bind] at h
      intro σ1 H1 sim1 x1 k1 l1
      refine ⟨b, en1, oa, ds, sim1, dpAll_mono x1.same rr, ?_⟩
      cases e2 : g ds en1 with
      | err => rw [e2] at h; exact h
      | exc x en1 => rw [e2] at h; exact h
      | ok u en2 =>
        rw [e2] at h
        intro σ2 H2 sim2 x2 k2 l2
        exact h σ2 H2 sim2 (x1.trans x2) (fun j n => (k2 j fun z => n (List.mem_append_right _ z)).trans (k1 j fun z => n (List.mem_append_left _ z))) (l2.trans l1)
theorem mg_tup {es : List Expr} {k : Nat} {pos : Pos} {sl : List Nat} {n : Nat} {g : List D → M Unit} (hc : X.calm = true) (h : PGs X es (tGs X.K sl g)) (hn : (assignEach es X.env).length = n) (hst : (assignEach es X.env).findIdx? (·.1) = none) : PG X (.Tuple es k pos) (tG X.K sl (tgTup n g)) := by
  refine pg_imp (pg_tup hc h hn hst) fun v σ H Q h => ?_
  obtain ⟨b, en, oa, d, sim, r, h⟩ := h
  unfold tgTup at h
  cases d with
  | tuple ds =>
    cases r with
    | tup q r =>
      simp only at h
      by_cases c : ds.length = n
      · rw [if_pos c] at h
        exact ⟨_, _, rfl, sqT_mono hide_same q, (dpAll_len r).trans c, b, en, oa, ds, sim, r, h⟩
      · rw [if_neg c] at h; exact h.elim
  | _ => exact h.elim
/-- x[k] = .., x a list that may change -/
def tgSub (i : Nat) (fk : M RV) (d : D) : M Unit := fun en => match locAt en i with
  | none => .err
  | some _ => (fk en).bind fun r en1 => match r, locAt en1 i with
    | .val (.int k) _, some (.list ds) => match ixN ds.length k with
      | some j => .ok () (setC en1 i (.list (ds.set j d)))
      | none => .err
    | _, _ => .err
theorem mg_sub {i : Nat} {x : Str} {pos px : Pos} {k : Expr} {Z : ZT} {fk : M RV} (hN : X.N[i]? = some x) (hv : Vis X.env.scope x) (hd : (x == ("__debug__" : Str)) = false) (hcd : (x == ("__classdict__" : Str)) = false) (hk : PE X k (tE X.K Z fk)) (hx : ∀ en y en', fk en ≠ .exc y en')
    (ha : ∀ v, assign (.Subscript (.Name x px) k pos) X.env v = (do
      let ov ← holding [v] (eval (.Name x px) X.env)
      let iv ← holding [v, ov] (eval k X.env)
      standAt pos
      holding [v, ov, iv] (setItem ov iv v)
      release [v, ov, iv] [])) : PG X (.Subscript (.Name x px) k pos) (tG X.K [] (tgSub i fk)) := by
  refine pg_imp (pg_sub (pe_var hN hv hd hcd) hk set_list ha) fun v σ H Q h => ?_
  obtain ⟨b, en, oa, d, sim, r, h⟩ := h
  unfold tgSub at h
  cases e0 : locAt en i with
  | none => rw [e0] at h; exact h.elim
  | some x0 =>
    rw [e0] at h
    simp only at h
    obtain ⟨q1, q2⟩ := sim.loc i x0 e0
    refine ⟨_, q1, b, en, oa, sim, ?_⟩
    cases e1 : fk en with
    | err => rw [e1] at h; exact h.elim
    | exc y en1 => exact (hx _ _ _ e1).elim
    | ok r1 en1 =>
      rw [e1] at h
      simp only [Res.bind] at h
      intro u H1 a1
      obtain ⟨s1, x1, rv1⟩ := a1.plain
      split at h
      · rename_i he
        split at he
        · rename_i k0 fr ds e2
          cases e3 : ixN ds.length k0 with
          | none => rw [e3] at he; cases he
          | some j =>
            rw [e3] at he
            cases he
            have q : Dp X.K _ u (.int k0) := rv1
            cases q
            obtain ⟨_, vs, q3, q4⟩ := s1.loc i _ e2
            obtain ⟨s2, fz, x2⟩ := s1.write e2 (dpAll_set (dp_mono x1.same r) j q4)
            exact ⟨oa i, vs, k0, j, rfl, rfl, q3, by rw [dpAll_len q4]; exact e3, h σ _ s2 (x1.trans x2) (fun _ _ => rfl) rfl⟩
        · cases he
      · exact h.elim
end

/-! ### what is walked -/
structure Walks (K : PySem.W.Frag) (J : It) (G F : Hp) (ds : List D) : Prop where
  go : ∀ i H, Same G H → i < ds.length → J.go i H
  stop : ∀ i H, Same G H → ds.length ≤ i → J.stop i H
  yld : ∀ i H x H', Same G H → J.yld i H x H' → ∀ d, ds[i]? = some d → OpAft K F H x H' d false
section
variable {K : PySem.W.Frag} {G F : Hp} {a : Addr} {vs : List V} {ds : List D}
theorem get_of_len {α β : Type} {l : List α} {m : List β} {i : Nat} (e : l.length = m.length) (h : i < m.length) : ∃ x, l[i]? = some x := ⟨l[i]'(by rw [e]; exact h), List.getElem?_eq_getElem _⟩
theorem walks_list (q : SqL K G a vs) (r : DpAll K F vs ds) : Walks K (Itl K a) G F ds where
  go := fun i H s h => by
    obtain ⟨x, e⟩ := get_of_len (dpAll_len r) h
    exact ⟨vs, x, sqL_mono s q, e⟩
  stop := fun i H s h => ⟨vs, sqL_mono s q, by rw [dpAll_len r]; exact h⟩
  yld := fun i H x H' s ⟨e, y⟩ d hd => by
    obtain ⟨v, e1, e2⟩ := dpAll_get r hd
    have e3 := y vs (sqL_mono s q)
    rw [e1] at e3
    cases e3
    subst e
    exact OpAft.scal e2
theorem walks_tup (q : SqT K G a vs) (r : DpAll K F vs ds) : Walks K (Itt K a) G F ds where
  go := fun i H s h => by
    obtain ⟨x, e⟩ := get_of_len (dpAll_len r) h
    exact ⟨vs, x, sqT_mono s q, e⟩
  stop := fun i H s h => ⟨vs, sqT_mono s q, by rw [dpAll_len r]; exact h⟩
  yld := fun i H x H' s ⟨e, y⟩ d hd => by
    obtain ⟨v, e1, e2⟩ := dpAll_get r hd
    have e3 := y vs (sqT_mono s q)
    rw [e1] at e3
    cases e3
    subst e
    exact OpAft.scal e2
/-- the signs of a text, each a text -/
def signs (x : Str) : List D := x.cps.toList.map fun c => .str ⟨#[c]⟩
theorem walks_str {x : Str} : Walks K (Its x) G F (signs x) where
  go := fun i H s h => by
    unfold signs at h
    rw [List.length_map, Array.length_toList] at h
    exact h
  stop := fun i H s h => by
    unfold signs at h
    rw [List.length_map, Array.length_toList] at h
    exact h
  yld := fun i H y H' s q d hd => by
    obtain ⟨e, c, hc, hy⟩ := q
    unfold signs at hd
    rw [List.getElem?_map, Array.getElem?_toList, hc] at hd
    cases hd
    subst e hy
    exact OpAft.scal (.str _)
def rngD (lo : Int) (n : Nat) : List D := (List.range n).map fun (i : Nat) => .int (lo + (i : Int))
theorem walks_rng {lo : Int} {n : Nat} : Walks K (Itr lo n) G F (rngD lo n) where
  go := fun i H s h => by
    unfold rngD at h
    rw [List.length_map, List.length_range] at h
    exact h
  stop := fun i H s h => by
    unfold rngD at h
    rw [List.length_map, List.length_range] at h
    exact h
  yld := fun i H y H' s q d hd => by
    obtain ⟨e, hy⟩ := q
    unfold rngD at hd
    rw [List.getElem?_map] at hd
    cases e2 : (List.range n)[i]? with
    | none => rw [e2] at hd; cases hd
    | some j =>
      rw [e2] at hd
      have hj : j = i := by
        have := List.getElem?_eq_some_iff.mp e2
        obtain ⟨h1, h2⟩ := this
        rw [List.getElem_range] at h2
        exact h2.symm
      cases hd
      subst e hy hj
      exact OpAft.scal (.int _)
def enumFrom (i : Nat) : List D → List D
  | [] => []
  | d :: ds => .tuple [.int i, d] :: enumFrom (i + 1) ds
theorem enum_len : ∀ (ds : List D) (i : Nat), (enumFrom i ds).length = ds.length
  | [], _ => rfl
  | _ :: ds, i => by unfold enumFrom; rw [List.length_cons, List.length_cons, enum_len ds]
theorem enum_get : ∀ (ds : List D) (k i : Nat) (d : D), (enumFrom k ds)[i]? = some d → ∃ y, ds[i]? = some y ∧ d = .tuple [.int ((k + i : Nat) : Int), y]
  | [], _, _, _, h => by cases h
  | y :: ds, k, 0, d, h => by
    unfold enumFrom at h
    cases h
    exact ⟨y, rfl, rfl⟩
  | y :: ds, k, i + 1, d, h => by
    unfold enumFrom at h
    obtain ⟨z, e1, e2⟩ := enum_get ds (k + 1) i d (by simpa using h)
    exact ⟨z, by simpa using e1, by rw [e2, show k + 1 + i = k + (i + 1) by omega]⟩
theorem walks_enum (q : SqL K G a vs) (r : DpAll K F vs ds) : Walks K (Ite K a) G F (enumFrom 0 ds) where
  go := fun i H s h => by
    rw [enum_len] at h
    obtain ⟨x, e⟩ := get_of_len (dpAll_len r) h
    exact ⟨vs, x, sqL_mono s q, e⟩
  stop := fun i H s h => by
    rw [enum_len] at h
    exact ⟨vs, sqL_mono s q, by rw [dpAll_len r]; exact h⟩
  yld := fun i H x H' s y d hd => by
    obtain ⟨T, x', rfl, hT, rfl, y⟩ := y
    obtain ⟨z, e1, rfl⟩ := enum_get ds 0 i d hd
    obtain ⟨v, e2, e3⟩ := dpAll_get r e1
    have e4 := y vs (sqL_mono s q)
    rw [e2] at e4
    cases e4
    rw [Nat.zero_add]
    exact OpAft.tup hT (.cons (.int _) (.cons e3 .nil))
theorem walks_enumT (q : SqT K G a vs) (r : DpAll K F vs ds) : Walks K (ItenT K a) G F (enumFrom 0 ds) where
  go := fun i H s h => by
    rw [enum_len] at h
    obtain ⟨x, e⟩ := get_of_len (dpAll_len r) h
    exact ⟨vs, x, sqT_mono s q, e⟩
  stop := fun i H s h => by
    rw [enum_len] at h
    exact ⟨vs, sqT_mono s q, by rw [dpAll_len r]; exact h⟩
  yld := fun i H x H' s y d hd => by
    obtain ⟨T, x', rfl, hT, rfl, y⟩ := y
    obtain ⟨z, e1, rfl⟩ := enum_get ds 0 i d hd
    obtain ⟨v, e2, e3⟩ := dpAll_get r e1
    have e4 := y vs (sqT_mono s q)
    rw [e2] at e4
    cases e4
    rw [Nat.zero_add]
    exact OpAft.tup hT (.cons (.int _) (.cons e3 .nil))
def zipD : List D → List D → List D
  | x :: xs, y :: ys => .tuple [x, y] :: zipD xs ys
  | _, _ => []
theorem zip_get : ∀ (xs ys : List D) (i : Nat) (d : D), (zipD xs ys)[i]? = some d → ∃ x y, xs[i]? = some x ∧ ys[i]? = some y ∧ d = .tuple [x, y]
  | x :: xs, y :: ys, 0, d, h => by unfold zipD at h; cases h; exact ⟨x, y, rfl, rfl, rfl⟩
  | x :: xs, y :: ys, i + 1, d, h => by
    unfold zipD at h
    obtain ⟨u, w, e1, e2, e3⟩ := zip_get xs ys i d (by simpa using h)
    exact ⟨u, w, by simpa using e1, by simpa using e2, e3⟩
  | [], _, _, _, h => by unfold zipD at h; cases h
  | _ :: _, [], _, _, h => by unfold zipD at h; cases h
theorem zip_len : ∀ (xs ys : List D), (zipD xs ys).length = min xs.length ys.length
  | x :: xs, y :: ys => by unfold zipD; rw [List.length_cons, List.length_cons, List.length_cons, zip_len xs ys]; omega
  | [], ys => by unfold zipD; simp
  | _ :: _, [] => by unfold zipD; simp
theorem walks_zip {c : Addr} {us : List V} {es : List D} (q : SqL K G a vs) (r : DpAll K F vs ds) (q2 : SqL K G c us) (r2 : DpAll K F us es) : Walks K (Itz K a c) G F (zipD ds es) where
  go := fun i H s h => by
    rw [zip_len] at h
    obtain ⟨x, e⟩ := get_of_len (dpAll_len r) (show i < ds.length by omega)
    obtain ⟨y, e2⟩ := get_of_len (dpAll_len r2) (show i < es.length by omega)
    exact ⟨vs, us, x, y, sqL_mono s q, sqL_mono s q2, e, e2⟩
  stop := fun i H s h => by
    rw [zip_len] at h
    refine ⟨vs, us, sqL_mono s q, sqL_mono s q2, ?_⟩
    rw [dpAll_len r, dpAll_len r2]
    omega
  yld := fun i H x H' s y d hd => by
    obtain ⟨T, x1, x2, rfl, hT, rfl, y1, y2⟩ := y
    obtain ⟨u, w, e1, e2, rfl⟩ := zip_get ds es i d hd
    obtain ⟨v, e3, e4⟩ := dpAll_get r e1
    obtain ⟨v2, e5, e6⟩ := dpAll_get r2 e2
    have z1 := y1 vs (sqL_mono s q)
    have z2 := y2 us (sqL_mono s q2)
    rw [e3] at z1
    rw [e5] at z2
    cases z1
    cases z2
    exact OpAft.tup hT (.cons e4 (.cons e6 .nil))
theorem walks_zipT {c : Addr} {us : List V} {es : List D} (q : SqT K G a vs) (r : DpAll K F vs ds) (q2 : SqT K G c us) (r2 : DpAll K F us es) : Walks K (RZ.ItzT K a c) G F (zipD ds es) where
  go := fun i H s h => by
    rw [zip_len] at h
    obtain ⟨x, e⟩ := get_of_len (dpAll_len r) (show i < ds.length by omega)
    obtain ⟨y, e2⟩ := get_of_len (dpAll_len r2) (show i < es.length by omega)
    exact ⟨vs, us, x, y, sqT_mono s q, sqT_mono s q2, e, e2⟩
  stop := fun i H s h => by
    rw [zip_len] at h
    refine ⟨vs, us, sqT_mono s q, sqT_mono s q2, ?_⟩
    rw [dpAll_len r, dpAll_len r2]
    omega
  yld := fun i H x H' s y d hd => by
    obtain ⟨T, x1, x2, rfl, hT, rfl, y1, y2⟩ := y
    obtain ⟨u, w, e1, e2, rfl⟩ := zip_get ds es i d hd
    obtain ⟨v, e3, e4⟩ := dpAll_get r e1
    obtain ⟨v2, e5, e6⟩ := dpAll_get r2 e2
    have z1 := y1 vs (sqT_mono s q)
    have z2 := y2 us (sqT_mono s q2)
    rw [e3] at z1
    rw [e5] at z2
    cases z1
    cases z2
    exact OpAft.tup hT (.cons e4 (.cons e6 .nil))
end

/-- what an iterable gives: its items; those of a slot's own list (which lies beside while it is walked) -/
inductive Src where
  | fz (ds : List D) | lc (i : Nat) (ds : List D)
def SrcOk (K : PySem.W.Frag) (b : Bs) (oa : Nat → Addr) (H : Hp) (en : Fr) (J : It) : Src → Prop
  | .fz ds => Walks K J (Frz b H en oa) (Frz b H en oa) ds
  | .lc i ds => ∃ vs, locAt en i = some (.list ds) ∧ H (oa i) = some (.lst vs) ∧ DpAll K (Frz b H en oa) vs ds ∧ J = Itl K (oa i)
def tI (K : PySem.W.Frag) (Z : ZT) (f : M Src) : TI := fun σ H R => ∃ b en oa, Sim K b oa σ H en ∧ match f en with
  | .ok src en' => ∀ J H', Sim K b oa σ H' en' → Ext b oa H en H' en' → SrcOk K b oa H' en' J src → R J H'
  | .exc x en' => ∀ H', Sim K b oa σ H' en' → Z x σ H'
  | .err => False
theorem pi_imp {X : Cx} {tg e : Expr} {t t' : TI} (h : PI X tg e t) (i : ∀ σ H R, t' σ H R → t σ H R) : PI X tg e t' := ⟨fun pins s σ H R I hw => h.run pins s σ H R I (i σ H R hw)⟩
theorem pi_or {X : Cx} {tg e : Expr} {t u : TI} (h : PI X tg e t) (h2 : PI X tg e u) : PI X tg e (fun σ H R => t σ H R ∨ u σ H R) := ⟨fun pins s σ H R I hw => hw.elim (h.run pins s σ H R I) (h2.run pins s σ H R I)⟩
/-- a list, a tuple, a text -/
def srcOf (r : RV) (en : Fr) : Res Src := match r with
  | .val (.list ds) _ => .ok (.fz ds) en
  | .val (.tuple ds) _ => .ok (.fz ds) en
  | .val (.str x) _ => .ok (.fz (signs x)) en
  | .loc i => match locAt en i with
    | some (.list ds) => .ok (.lc i ds) en
    | _ => .err
  | _ => .err
def evIter (f : M RV) : M Src := fun en => (f en).bind srcOf
section
variable {X : Cx} {K : PySem.W.Frag} {Z : ZT} {fa fb : M RV}
theorem mi_iter {tg e : Expr} (he : PE X e (tE X.K Z fa)) : PI X tg e (tI X.K Z (evIter fa)) := by
  refine pi_imp (pi_or (pi_list he) (pi_or (pi_tup he) (pi_str he))) fun σ H R h => ?_
  -- which of the three
  have h0 := h
  obtain ⟨b, en, oa, sim, hh⟩ := h0
  unfold evIter at hh
  have no : ∀ {P : V → Hp → Prop}, (match (fa en).bind srcOf with
      | .ok src en' => ∀ J H', Sim X.K b oa σ H' en' → Ext b oa H en H' en' → SrcOk X.K b oa H' en' J src → R J H'
      | .exc x en' => ∀ H', Sim X.K b oa σ H' en' → Z x σ H'
      | .err => False) → (∀ r en1, fa en = .ok r en1 → ∀ v H1, Sim X.K b oa σ H1 en1 → Ext b oa H en H1 en1 → RvOk X.K b oa H1 en1 v r → P v H1) → tE X.K Z fa σ H P := fun {P} hh q => by
    refine ⟨b, en, oa, sim, ?_⟩
    cases e1 : fa en with
    | err => rw [e1] at hh; exact hh
    | exc x en1 => rw [e1] at hh; exact hh
    | ok r en1 =>
      intro v H1 a1
      obtain ⟨s1, x1, rv⟩ := a1.plain
      exact q r en1 e1 v H1 s1 x1 rv
  cases e1 : fa en with
  | err => rw [e1] at hh; exact hh.elim
  | exc x en1 => exact .inl (no hh fun r en2 e => by rw [e1] at e; cases e)
  | ok r en1 =>
    have hh' := hh
    rw [e1] at hh'
    simp only [Res.bind] at hh'
    cases r with
    | val d fr =>
      cases d with
      | list ds =>
        simp only [srcOf] at hh'
        refine .inl (no hh fun r en2 e v H1 s1 x1 rv => ?_)
        rw [e1] at e
        cases e
        have q : Dp X.K _ v (.list ds) := rv
        cases q with
        | lst q r => exact ⟨_, rfl, ⟨_, sqL_mono hide_same q⟩, hh' _ H1 s1 x1 (walks_list q r)⟩
      | tuple ds =>
        simp only [srcOf] at hh'
        refine .inr (.inl (no hh fun r en2 e v H1 s1 x1 rv => ?_))
        rw [e1] at e
        cases e
        have q : Dp X.K _ v (.tuple ds) := rv
        cases q with
        | tup q r => exact ⟨_, rfl, ⟨_, sqT_mono hide_same q⟩, hh' _ H1 s1 x1 (walks_tup q r)⟩
      | str x =>
        simp only [srcOf] at hh'
        refine .inr (.inr (no hh fun r en2 e v H1 s1 x1 rv => ?_))
        rw [e1] at e
        cases e
        have q : Dp X.K _ v (.str x) := rv
        cases q
        exact ⟨x, rfl, hh' _ H1 s1 x1 walks_str⟩
      | _ => simp only [srcOf] at hh'
    | loc i =>
      simp only [srcOf] at hh'
      cases e2 : locAt en1 i with
      | none => rw [e2] at hh'; exact hh'.elim
      | some d =>
        rw [e2] at hh'
        cases d with
        | list ds =>
          simp only at hh'
          refine .inl (no hh fun r en2 e v H1 s1 x1 rv => ?_)
          rw [e1] at e
          cases e
          have q : v = .ref (oa i) := rv
          obtain ⟨_, vs, e3, r⟩ := s1.loc i _ e2
          exact ⟨oa i, q, ⟨vs, .inl (.inl e3)⟩, hh' _ H1 s1 x1 ⟨vs, e2, e3, r, rfl⟩⟩
        | _ => simp only at hh'
/-- from a list of operands to what is walked -/
def evSrc (k : List RV → Option (List D)) (fs : List (M RV)) : M Src := fun en => (evAll fs en).bind fun rs en1 => match k rs with
  | some ds => .ok (.fz ds) en1
  | none => .err
theorem src_ok {σ : St} {H : Hp} {fs : List (M RV)} {k : List RV → Option (List D)} {R : It → Hp → Prop} {P : List V → Hp → Prop} (h : tI K Z (evSrc k fs) σ H R)
    (q : ∀ F H1 vs rs ds, Same F H1 → (∃ b oa en, F = Frz b H1 en oa ∧ RvAll K b oa H1 en vs rs) → k rs = some ds → (∀ J, Walks K J F F ds → R J H1) → P vs H1) : tAs K Z (evAll fs) σ H P := by
  obtain ⟨b, en, oa, sim, h⟩ := h
  refine ⟨b, en, oa, sim, ?_⟩
  unfold evSrc at h
  cases e1 : evAll fs en with
  | err => rw [e1] at h; exact h.elim
  | exc x en1 => rw [e1] at h; exact h
  | ok rs en1 =>
    rw [e1] at h
    simp only [Res.bind] at h
    intro vs H1 s1 x1 r1
    cases e2 : k rs with
    | none => rw [e2] at h; exact h.elim
    | some ds =>
      rw [e2] at h
      exact q _ H1 vs rs ds hide_same ⟨b, oa, en1, rfl, r1⟩ e2 fun J w => h J H1 s1 x1 w
/-- -n ≤ i < n, by the sign -/
def wid (n : Nat) : Int → Bool
  | .ofNat k => Nat.blt k n
  | .negSucc k => Nat.blt k n
theorem wid_iff {n : Nat} {i : Int} : wid n i = true ↔ -(n : Int) ≤ i ∧ i < n := by
  cases i with
  | ofNat k =>
    show Nat.blt k n = true ↔ _
    rw [Nat.blt_eq, Int.ofNat_eq_natCast]
    omega
  | negSucc k =>
    show Nat.blt k n = true ↔ _
    rw [Nat.blt_eq]
    omega
theorem wid62 {i : Int} (h : wid 4611686018427387904 i = true) : -(2 ^ 62) ≤ i ∧ i < 2 ^ 62 := by
  have := wid_iff.mp h
  omega
def rng1 : List RV → Option (List D)
  | [r] => (intOf r).bind fun j => if wid 4611686018427387904 j = true then some (rngD 0 j.toNat) else none
  | _ => none
def rng2 : List RV → Option (List D)
  | [r, r'] => (intOf r).bind fun i => (intOf r').bind fun j => if wid 4611686018427387904 i = true ∧ wid 4611686018427387904 j = true then some (rngD i (j - i).toNat) else none
  | _ => none
def lstOf : RV → Option (List D)
  | .val (.list ds) _ => some ds
  | .val (.tuple ds) _ => some ds
  | _ => none
def enum1 : List RV → Option (List D)
  | [r] => (lstOf r).map fun ds => enumFrom 0 ds
  | _ => none
def zip2 : List RV → Option (List D)
  | [.val (.list ds) _, .val (.list es) _] => some (zipD ds es)
  | [.val (.tuple ds) _, .val (.tuple es) _] => some (zipD ds es)
  | _ => none
theorem mi_rng1 {tg e : Expr} {p pos : Pos} {fs : List (M RV)} (hg : Gl X "range") (hm : X.mg "range" = none) (ha : PA X [e] (tAs X.K Z (evAll fs))) (hs : starEach [e] X.env = [(false, eval e X.env)]) : PI X tg (.Call (.Name "range" p) [e] [] pos) (tI X.K Z (evSrc rng1 fs)) := by
  refine pi_imp (pi_range1 hg hm ha hs) fun σ H R h => src_ok h fun F H1 vs rs ds s ⟨b, oa, en, ef, ra⟩ e q => ?_
  unfold rng1 at e
  split at e
  · rename_i r _
    cases e1 : intOf r with
    | none => rw [e1] at e; cases e
    | some j =>
      rw [e1] at e
      simp only [Option.bind_some] at e
      split at e
      · rename_i c
        cases e
        cases ra with
        | cons rv ra =>
          cases ra
          rw [intOf_ok rv e1]
          exact ⟨j, rfl, (wid62 c).1, (wid62 c).2, q _ walks_rng⟩
      · cases e
  · cases e
theorem mi_rng2 {tg e e2 : Expr} {p pos : Pos} {fs : List (M RV)} (hg : Gl X "range") (hm : X.mg "range" = none) (ha : PA X [e, e2] (tAs X.K Z (evAll fs))) (hs : starEach [e, e2] X.env = [(false, eval e X.env), (false, eval e2 X.env)]) (hs2 : starEach [e2] X.env = [(false, eval e2 X.env)]) : PI X tg (.Call (.Name "range" p) [e, e2] [] pos) (tI X.K Z (evSrc rng2 fs)) := by
  refine pi_imp (pi_range2 hg hm ha hs hs2) fun σ H R h => src_ok h fun F H1 vs rs ds s ⟨b, oa, en, ef, ra⟩ e q => ?_
  unfold rng2 at e
  split at e
  · rename_i r r' _
    cases e1 : intOf r with
    | none => rw [e1] at e; cases e
    | some i =>
      cases e2 : intOf r' with
      | none => rw [e1, e2] at e; cases e
      | some j =>
        rw [e1, e2] at e
        simp only [Option.bind_some] at e
        split at e
        · rename_i c
          cases e
          cases ra with
          | cons rv ra =>
            cases ra with
            | cons rv' ra =>
              cases ra
              rw [intOf_ok rv e1, intOf_ok rv' e2]
              exact ⟨i, j, rfl, ⟨(wid62 c.1).1, (wid62 c.1).2, (wid62 c.2).1, (wid62 c.2).2⟩, q _ walks_rng⟩
        · cases e
  · cases e
theorem mi_enum {e : Expr} {p pos tpos : Pos} {elts : List Expr} {kk : Nat} {fs : List (M RV)} (hg : Gl X "enumerate") (hm : X.mg "enumerate" = none) (ha : PA X [e] (tAs X.K Z (evAll fs))) (hs : starEach [e] X.env = [(false, eval e X.env)]) :
    PI X (.Tuple elts kk tpos) (.Call (.Name "enumerate" p) [e] [] pos) (tI X.K Z (evSrc enum1 fs)) := by
  refine pi_imp (pi_enumA hg hm ha hs) fun σ H R h => src_ok h fun F H1 vs rs ds s ⟨b, oa, en, ef, ra⟩ e q => ?_
  unfold enum1 at e
  split at e
  · rename_i r
    unfold lstOf at e
    split at e
    · rename_i es fr
      cases e
      cases ra with
      | cons rv ra =>
        cases ra
        rename_i v
        have rv' : Dp X.K (Frz b H1 en oa) v (.list es) := rv
        rw [← ef] at rv'
        cases rv' with
        | lst q1 r1 => exact .inl ⟨_, _, rfl, sqL_mono s q1, q _ (walks_enum q1 r1)⟩
    · rename_i es fr
      cases e
      cases ra with
      | cons rv ra =>
        cases ra
        rename_i v
        have rv' : Dp X.K (Frz b H1 en oa) v (.tuple es) := rv
        rw [← ef] at rv'
        cases rv' with
        | tup q1 r1 => exact .inr ⟨_, _, rfl, sqT_mono s q1, q _ (walks_enumT q1 r1)⟩
    · cases e
  · cases e
theorem mi_zip {e e2 : Expr} {p pos tpos : Pos} {elts : List Expr} {kk : Nat} {fs : List (M RV)} (hg : Gl X "zip") (hm : X.mg "zip" = none) (ha : PA X [e, e2] (tAs X.K Z (evAll fs)))
    (hs : starEach [e, e2] X.env = (false, eval e X.env) :: starEach [e2] X.env) (hpl : (backTo pos (starEach [e2] X.env)).any (·.1) = false) :
    PI X (.Tuple elts kk tpos) (.Call (.Name "zip" p) [e, e2] [] pos) (tI X.K Z (evSrc zip2 fs)) := by
  refine pi_imp (RZ.pi_zipA hg hm ha hs hpl) fun σ H R h => src_ok h fun F H1 vs rs ds s ⟨b, oa, en, ef, ra⟩ e q => ?_
  unfold zip2 at e
  split at e
  · rename_i ds1 f1 es1 f2 _
    cases e
    cases ra with
    | cons rv ra =>
      cases ra with
      | cons rv2 ra =>
        cases ra
        rename_i v v2 _
        have r1 : Dp X.K (Frz b H1 en oa) v (.list ds1) := rv
        have r2 : Dp X.K (Frz b H1 en oa) v2 (.list es1) := rv2
        rw [← ef] at r1 r2
        cases r1 with
        | lst q1 r1 =>
          cases r2 with
          | lst q2 r2 => exact ⟨_, _, _, _, rfl, .inl ⟨sqL_mono s q1, sqL_mono s q2, q _ (walks_zip q1 r1 q2 r2)⟩⟩
  · rename_i ds1 f1 es1 f2 _
    cases e
    cases ra with
    | cons rv ra =>
      cases ra with
      | cons rv2 ra =>
        cases ra
        rename_i v v2 _
        have r1 : Dp X.K (Frz b H1 en oa) v (.tuple ds1) := rv
        have r2 : Dp X.K (Frz b H1 en oa) v2 (.tuple es1) := rv2
        rw [← ef] at r1 r2
        cases r1 with
        | tup q1 r1 =>
          cases r2 with
          | tup q2 r2 => exact ⟨_, _, _, _, rfl, .inr ⟨sqT_mono s q1, sqT_mono s q2, q _ (walks_zipT q1 r1 q2 r2)⟩⟩
  · cases e
end
end Mi
set_option Elab.async false
set_option linter.all false
set_option maxRecDepth 100000
set_option autoImplicit false
/-! Mi7: statements, loops -/
namespace Mi
open PySem PySem.Spec L2

inductive SRes where
  | nx (en : Fr) | ret (r : RV) (en : Fr) | brk (en : Fr) | cnt (en : Fr) | exc (x : Exc) (en : Fr) | err
def Ret (K : PySem.W.Frag) (b : Bs) (oa : Nat → Addr) (σ : St) (H : Hp) (en : Fr) (v : V) (r : RV) : Prop := match r with
  | .val d true => ∃ G p vs ds, v = .ref p ∧ d = .list ds ∧ G p = none ∧ H = upd G p (.lst vs) ∧ Sim K b oa σ G en ∧ DpAll K (Frz b G en oa) vs ds
  | r => Sim K b oa σ H en ∧ RvOk K b oa H en v r
def SOk (K : PySem.W.Frag) (b : Bs) (Z : ZT) (De : Ends) : SRes → Prop
  | .nx en => ∀ oa σ H, Sim K b oa σ H en → De.nx σ H
  | .ret r en => ∀ oa σ H v, Ret K b oa σ H en v r → De.rt v H
  | .brk en => ∀ oa σ H, Sim K b oa σ H en → De.bk σ H
  | .cnt en => ∀ oa σ H, Sim K b oa σ H en → De.ct σ H
  | .exc x en => ∀ oa σ H, Sim K b oa σ H en → Z x σ H
  | .err => False
def tS (K : PySem.W.Frag) (Z : ZT) (f : Fr → SRes) : TS := fun De σ H => ∃ b en oa, Sim K b oa σ H en ∧ SOk K b Z De (f en)
theorem ps_imp {X : Cx} {e : Stmt} {t t' : TS} (h : PS X e t) (i : ∀ D σ H, t' D σ H → t D σ H) : PS X e t' := ⟨fun pins s σ H D I hw => h.run pins s σ H D I (i D σ H hw)⟩
theorem pss_imp {X : Cx} {e : List Stmt} {t t' : TS} (h : PSs X e t) (i : ∀ D σ H, t' D σ H → t D σ H) : PSs X e t' := ⟨fun pins s σ H D I hw => h.run pins s σ H D I (i D σ H hw)⟩
section
variable {K : PySem.W.Frag} {b b' : Bs} {Z : ZT} {De De' : Ends} {oa : Nat → Addr} {σ : St} {H H' : Hp} {en en' : Fr} {v : V} {r : RV}
theorem Aft.ret (h : Aft K b oa σ H en v H' r en') : Ret K b oa σ H' en' v r := by
  have pl : Sim K b oa σ H' en' ∧ Ext b oa H en H' en' ∧ RvOk K b oa H' en' v r → Sim K b oa σ H' en' ∧ RvOk K b oa H' en' v r := fun h => ⟨h.1, h.2.2⟩
  cases r with
  | loc i => exact pl h
  | val d fr =>
    cases fr with
    | false => exact pl h
    | true =>
      obtain ⟨G, p, vs, ds, e1, e2, hp, e3, sim, ext, r⟩ := h
      exact ⟨G, p, vs, ds, e1, e2, hp, e3, sim, r⟩
/-- from one base to another -/
structure To (K : PySem.W.Frag) (b b' : Bs) (en en' : Fr) : Prop where
  to : ∀ oa σ H, Sim K b oa σ H en → Sim K b' oa σ H en' ∧ Same (Frz b H en oa) (Frz b' H en' oa)
theorem To.ret (t : To K b b' en en') (h : Ret K b oa σ H en v r) : Ret K b' oa σ H en' v r := by
  unfold Ret at h ⊢
  split at h
  · obtain ⟨G, p, vs, ds, e1, e2, hp, e3, sim, r⟩ := h
    obtain ⟨s1, x1⟩ := t.to _ _ _ sim
    exact ⟨G, p, vs, ds, e1, e2, hp, e3, s1, dpAll_mono x1 r⟩
  · obtain ⟨s1, x1⟩ := t.to _ _ _ h.1
    refine ⟨s1, ?_⟩
    cases r with
    | val d fr => exact dp_mono x1 h.2
    | loc i => exact h.2
theorem To.nx (t : To K b b' en en') (h : SOk K b' Z De (.nx en')) : SOk K b Z De (.nx en) := fun oa σ H s => h oa σ H (t.to _ _ _ s).1
theorem To.rt (t : To K b b' en en') (h : SOk K b' Z De (.ret r en')) : SOk K b Z De (.ret r en) := fun oa σ H v s => h oa σ H v (t.ret s)
theorem To.xc {x : Exc} (t : To K b b' en en') (h : SOk K b' Z De (.exc x en')) : SOk K b Z De (.exc x en) := fun oa σ H s => h oa σ H (t.to _ _ _ s).1
/-- the base grows to what stands -/
abbrev Bs.grow (b : Bs) (B : Hp) : Bs := { b with B := B }
theorem Sim.grow (s : Sim K b oa σ H en) : Sim K (b.grow (Frz b H en oa)) oa σ H en := ⟨s.len, s.val, s.loc, s.inj, Same.refl _, s.muA, s.xl, s.xo, s.lnt⟩
theorem to_grow {B : Hp} (h : Same b.B B) : To K (b.grow B) b en en := ⟨fun oa σ H s => ⟨⟨s.len, s.val, s.loc, s.inj, h.trans s.base, s.muA, s.xl, s.xo, s.lnt⟩, Same.refl _⟩⟩

/-! ### a list lent: it lies beside -/
def lend (b : Bs) (i : Nat) (a : Addr) (vs : List V) (B : Hp) : Bs := { B := B, ma := fun j => if j = i then a else b.ma j, xh := fun x => b.xh x ∨ x = a, xc := fun x => open Classical in if x = a then vs else b.xc x }
theorem Sim.lend {i : Nat} {d : D} {vs : List V} (s : Sim K b oa σ H en) (h : locAt en i = some d) (hv : H (oa i) = some (.lst vs)) :
    Sim K (lend b i (oa i) vs (Frz b H en oa)) oa σ H (en.set i .lent) ∧ Frz (lend b i (oa i) vs (Frz b H en oa)) H (en.set i .lent) oa = Frz b H en oa := by
  have hid : ∀ a, Hid (Mi.lend b i (oa i) vs (Frz b H en oa)) (en.set i .lent) oa a ↔ Hid b en oa a := fun a => by
    constructor
    · rintro (z | ⟨j, d', h1, h2⟩)
      · rcases z with z | z
        · exact .inl z
        · exact .inr ⟨i, d, h, z.symm⟩
      · exact .inr ⟨j, d', (locAt_set_un rfl h1).2, h2⟩
    · rintro (z | ⟨j, d', h1, h2⟩)
      · exact .inl (.inl z)
      · by_cases hj : j = i
        · exact .inl (.inr (by rw [← h2, hj]))
        · exact .inr ⟨j, d', by rw [locAt_set hj]; exact h1, h2⟩
  have fz : Frz (Mi.lend b i (oa i) vs (Frz b H en oa)) H (en.set i .lent) oa = Frz b H en oa := hide_congr hid fun _ _ => rfl
  have hl := locAt_lt h
  refine ⟨⟨by rw [List.length_set]; exact s.len, fun j d' e => ?_, fun j d' e => ?_, fun j j' d' d'' q q' e => ?_, by rw [fz]; exact Same.refl _, fun j d' e => ?_, fun a z => ?_, fun j d' e z => ?_, fun j e => ?_⟩, fz⟩
  · rw [fz]
    by_cases hj : j = i
    · subst hj
      rw [List.getElem?_set_self hl] at e; cases e
    · rw [List.getElem?_set_ne (Ne.symm hj)] at e
      exact s.val j d' e
  · rw [fz]; exact s.loc j d' (locAt_set_un rfl e).2
  · exact s.inj j j' d' d'' (locAt_set_un rfl q).2 (locAt_set_un rfl q').2 e
  · by_cases hj : j = i
    · subst hj
      rw [List.getElem?_set_self hl] at e; cases e
    · rw [List.getElem?_set_ne (Ne.symm hj)] at e
      show oa j = if j = i then oa i else b.ma j
      rw [if_neg hj]
      exact s.muA j d' e
  · show H a = some (.lst (if a = oa i then vs else b.xc a))
    by_cases c : a = oa i
    · rw [if_pos c, c]; exact hv
    · rw [if_neg c]; exact s.xl a (z.resolve_right c)
  · obtain ⟨n, e⟩ := locAt_set_un rfl e
    rcases z with z | z
    · exact s.xo j d' e z
    · exact n (s.inj j i d' d e h z)
  · show σ[j]? = some (some (.ref (if j = i then oa i else b.ma j)))
    by_cases hj : j = i
    · rw [if_pos hj, hj]; exact (s.loc i d h).1
    · rw [if_neg hj]
      rw [List.getElem?_set_ne (Ne.symm hj)] at e
      exact s.lnt j e
/-- .. given back -/
theorem to_unlend {i : Nat} {a : Addr} {vs : List V} {ds : List D} {B : Hp} {s : Sl} (hB : Same b.B B) (r : DpAll K B vs ds) (hx : ¬ b.xh a) (hs : s = .own (.list ds) ∨ (s = .mu (.list ds) ∧ b.ma i = a)) (he : en[i]? = some .lent) {oa : Nat → Addr} {σ : St} {H : Hp} (sim : Sim K (lend b i a vs B) oa σ H en) :
    Sim K b (fun j => if j = i then a else oa j) σ H (en.set i s) ∧ Frz b H (en.set i s) (fun j => if j = i then a else oa j) = Frz (lend b i a vs B) H en oa := by
  have hl := lt_of_get he
  have sl : s.loc = some (.list ds) := by
    rcases hs with h | ⟨h, _⟩ <;> (rw [h]; rfl)
  have nl : s ≠ .lent := fun z => by rw [z] at sl; cases sl
  have hoc : ∀ {j : Nat} {d : D}, j ≠ i → locAt (en.set i s) j = some d → locAt en j = some d := fun n e => by rw [locAt_set n] at e; exact e
  have hid : ∀ x, Hid b (en.set i s) (fun j => if j = i then a else oa j) x ↔ Hid (lend b i a vs B) en oa x := fun x => by
    constructor
    · rintro (z | ⟨j, d', h1, h2⟩)
      · exact .inl (.inl z)
      · have h2 : (if j = i then a else oa j) = x := h2
        by_cases hj : j = i
        · rw [if_pos hj] at h2; exact .inl (.inr h2.symm)
        · rw [if_neg hj] at h2; exact .inr ⟨j, d', hoc hj h1, h2⟩
    · rintro (z | ⟨j, d', h1, h2⟩)
      · rcases z with z | z
        · exact .inl z
        · exact .inr ⟨i, _, by rw [locAt_set_self hl]; exact sl, by show (if i = i then a else oa i) = x; rw [if_pos rfl, z]⟩
      · have hj : j ≠ i := fun z => by
          unfold locAt at h1
          rw [z, he] at h1; cases h1
        exact .inr ⟨j, d', by rw [locAt_set hj]; exact h1, by show (if j = i then a else oa j) = x; rw [if_neg hj]; exact h2⟩
  have fz : Frz b H (en.set i s) (fun j => if j = i then a else oa j) = Frz (lend b i a vs B) H en oa := hide_congr hid fun _ _ => rfl
  have ha : H a = some (.lst vs) := by
    have q := sim.xl a (.inr rfl)
    have e : (lend b i a vs B).xc a = vs := by show (if a = a then vs else b.xc a) = vs; rw [if_pos rfl]
    rw [e] at q; exact q
  have hma : σ[i]? = some (some (.ref a)) := by
    have q := sim.lnt i he
    have e : (lend b i a vs B).ma i = a := by show (if i = i then a else b.ma i) = a; rw [if_pos rfl]
    rw [e] at q; exact q
  refine ⟨⟨by rw [List.length_set]; exact sim.len, fun j d' e => ?_, fun j d' e => ?_, fun j j' d' d'' q q' e => ?_, by rw [fz]; exact hB.trans sim.base, fun j d' e => ?_, fun x z => ?_, fun j d' e => ?_, fun j e => ?_⟩, fz⟩
  · rw [fz]
    by_cases hj : j = i
    · subst hj
      rw [List.getElem?_set_self hl] at e
      injection e with e
      rw [e] at sl; cases sl
    · rw [List.getElem?_set_ne (Ne.symm hj)] at e
      exact sim.val j d' e
  · rw [fz]
    by_cases hj : j = i
    · subst hj
      rw [locAt_set_self hl, sl] at e
      cases e
      rw [if_pos rfl]
      exact ⟨hma, vs, ha, dpAll_mono sim.base r⟩
    · rw [if_neg hj]
      exact sim.loc j d' (hoc hj e)
  · have e : (if j = i then a else oa j) = (if j' = i then a else oa j') := e
    by_cases hj : j = i
    · by_cases hj' : j' = i
      · rw [hj, hj']
      · rw [if_pos hj, if_neg hj'] at e
        exact absurd (.inr e.symm) (sim.xo j' d'' (hoc hj' q'))
    · by_cases hj' : j' = i
      · rw [if_neg hj, if_pos hj'] at e
        exact absurd (.inr e) (sim.xo j d' (hoc hj q))
      · rw [if_neg hj, if_neg hj'] at e
        exact sim.inj j j' d' d'' (hoc hj q) (hoc hj' q') e
  · show (if j = i then a else oa j) = b.ma j
    by_cases hj : j = i
    · rw [if_pos hj]
      rw [hj, List.getElem?_set_self hl] at e
      injection e with e
      rcases hs with h | ⟨_, h⟩
      · rw [h] at e; cases e
      · rw [hj]; exact h.symm
    · rw [if_neg hj]
      rw [List.getElem?_set_ne (Ne.symm hj)] at e
      have q := sim.muA j d' e
      have e' : (lend b i a vs B).ma j = b.ma j := by show (if j = i then a else b.ma j) = b.ma j; rw [if_neg hj]
      rw [e'] at q; exact q
  · have q := sim.xl x (.inl z)
    have e : (lend b i a vs B).xc x = b.xc x := by show (if x = a then vs else b.xc x) = b.xc x; rw [if_neg fun (c : x = a) => hx (c ▸ z)]
    rw [e] at q; exact q
  · show ¬ b.xh (if j = i then a else oa j)
    by_cases hj : j = i
    · rw [if_pos hj]; exact hx
    · rw [if_neg hj]; exact fun z => sim.xo j d' (hoc hj e) (.inl z)
  · have hj := lent_ne nl hl e
    rw [List.getElem?_set_ne (Ne.symm hj)] at e
    have q := sim.lnt j e
    have e' : (lend b i a vs B).ma j = b.ma j := by show (if j = i then a else b.ma j) = b.ma j; rw [if_neg hj]
    rw [e'] at q; exact q
/-- .. let go -/
theorem to_drop {i : Nat} {a : Addr} {vs : List V} {B : Hp} (hB : Same b.B B) (hx : ¬ b.xh a) : To K (lend b i a vs B) b en (en.set i .un) := ⟨fun oa σ H sim => by
  have hid : ∀ {x : Addr}, Hid b (en.set i .un) oa x → Hid (lend b i a vs B) en oa x := fun {x} h => by
    rcases hid_set rfl h with z | z
    · exact .inl (.inl z)
    · exact .inr z
  have sm : Same (Frz (lend b i a vs B) H en oa) (Frz b H (en.set i .un) oa) := hide_mono (fun _ _ _ e => e) fun x z => .inl (hid z)
  have ne : ∀ {j : Nat} {s : Sl}, (en.set i .un)[j]? = some s → s ≠ .un → j ≠ i ∧ en[j]? = some s := fun {j s} e n => by
    by_cases hj : j = i
    · rw [hj, List.getElem?_set] at e
      simp only [if_true] at e
      split at e
      · injection e with e; exact absurd e.symm n
      · cases e
    · rw [List.getElem?_set_ne (Ne.symm hj)] at e; exact ⟨hj, e⟩
  refine ⟨⟨by rw [List.length_set]; exact sim.len, fun j d e => ?_, fun j d e => ?_, fun j j' d d' q q' e => sim.inj j j' d d' (locAt_set_un rfl q).2 (locAt_set_un rfl q').2 e, (hB.trans sim.base).trans sm, fun j d e => ?_, fun x z => ?_, fun j d e z => sim.xo j d (locAt_set_un rfl e).2 (.inl z), fun j e => ?_⟩, sm⟩
  · obtain ⟨u, h1, h2⟩ := sim.val j d (ne e (by intro z; cases z)).2
    exact ⟨u, h1, dp_mono sm h2⟩
  · obtain ⟨h1, h2⟩ := sim.loc j d (locAt_set_un rfl e).2
    exact ⟨h1, h2.mono sm fun o z => z⟩
  · obtain ⟨n, e⟩ := ne e (by intro z; cases z)
    have q := sim.muA j d e
    have e' : (lend b i a vs B).ma j = b.ma j := by show (if j = i then a else b.ma j) = b.ma j; rw [if_neg n]
    rw [e'] at q; exact q
  · have q := sim.xl x (.inl z)
    have e : (lend b i a vs B).xc x = b.xc x := by show (if x = a then vs else b.xc x) = b.xc x; rw [if_neg fun (c : x = a) => hx (c ▸ z)]
    rw [e] at q; exact q
  · obtain ⟨n, e⟩ := ne e (by intro z; cases z)
    have q := sim.lnt j e
    have e' : (lend b i a vs B).ma j = b.ma j := by show (if j = i then a else b.ma j) = b.ma j; rw [if_neg n]
    rw [e'] at q; exact q⟩
theorem OpAft.up {F F' : Hp} {d : D} {fr : Bool} (s : Same F F') (h : OpAft K F H v H' d fr) : OpAft K F' H v H' d fr := by
  cases fr with
  | true =>
    cases d with
    | list ds => obtain ⟨p, vs, e1, e2, e3, r⟩ := h; exact ⟨p, vs, e1, e2, e3, dpAll_mono s r⟩
    | _ => exact h.elim
  | false =>
    have h' : (H' = H ∧ Dp K F v d) ∨ ∃ p vs ds, d = .tuple ds ∧ v = .ref p ∧ H p = none ∧ H' = upd H p (.tup vs) ∧ DpAll K F vs ds := by
      cases d <;> exact h
    have h2 : (H' = H ∧ Dp K F' v d) ∨ ∃ p vs ds, d = .tuple ds ∧ v = .ref p ∧ H p = none ∧ H' = upd H p (.tup vs) ∧ DpAll K F' vs ds := by
      rcases h' with ⟨e, q⟩ | ⟨p, vs, ds, e1, e2, e3, e4, r⟩
      · exact .inl ⟨e, dp_mono s q⟩
      · exact .inr ⟨p, vs, ds, e1, e2, e3, e4, dpAll_mono s r⟩
    cases d <;> exact h2
end

/-! ### for -/
def forGo (ftg : D → M Unit) (fb : Fr → SRes) : List D → Fr → SRes
  | [], en => .nx en
  | d :: ds, en => match ftg d en with
    | .ok _ en1 => match fb en1 with
      | .nx en2 => forGo ftg fb ds en2
      | .cnt en2 => forGo ftg fb ds en2
      | .brk en2 => .nx en2
      | r => r
    | _ => .err
def giveBack (i : Nat) (s : Sl) : SRes → SRes
  | .nx en => match en[i]? with
    | some .lent => .nx (en.set i s)
    | _ => .err
  | .ret r en => .ret r (en.set i .un)
  | .exc x en => .exc x (en.set i .un)
  | _ => .err
def xFor (fi : M Src) (ftg : D → M Unit) (fb : Fr → SRes) (en : Fr) : SRes := match fi en with
  | .ok (.fz ds) en1 => forGo ftg fb ds en1
  | .ok (.lc i ds) en1 => match en1[i]? with
    | some s => giveBack i s (forGo ftg fb ds (en1.set i .lent))
    | none => .err
  | .exc x en1 => .exc x en1
  | .err => .err
section
variable {K : PySem.W.Frag} {b b' : Bs} {Z : ZT} {De : Ends} {oa : Nat → Addr} {σ : St} {H H' : Hp} {en en' : Fr} {v : V} {r : RV}
theorem for_core {Gh : Hp} {J : It} {sl : List Nat} {ftg : D → M Unit} {fb : Fr → SRes} (hG : ∀ oa σ H en, Sim K b oa σ H en → Same Gh H) :
    ∀ {ds : List D} {oa : Nat → Addr} {σ : St} {H : Hp} {en : Fr}, Walks K J Gh b.B ds → Sim K b oa σ H en → SOk K b Z De (forGo ftg fb ds en) →
    ∃ W : Nat → Nat → St → Hp → Prop, (∃ m, W 0 m σ H) ∧ ∀ i m σ H, W i m σ H →
      (J.stop i H ∧ De.nx σ H) ∨ (J.go i H ∧ ∃ N : St → Hp → Prop, (∀ σ' H', N σ' H' → ∃ m', m' < m ∧ W (i + 1) m' σ' H') ∧
        ∀ x H', J.yld i H x H' → tG K sl ftg x σ H' fun σ2 H2 => tS K Z fb { De with nx := N, ct := N, bk := De.nx } σ2 H2) := by
  intro ds oa σ H en w sim h
  refine ⟨fun i m σ H => m = ds.length - i ∧ i ≤ ds.length ∧ ∃ oa en, Sim K b oa σ H en ∧ SOk K b Z De (forGo ftg fb (ds.drop i) en), ⟨ds.length, by simp, Nat.zero_le _, oa, en, sim, h⟩, ?_⟩
  rintro i m σ H ⟨rfl, hi, oa, en, sim, h⟩
  by_cases hlt : i < ds.length
  · obtain ⟨d, hd⟩ : ∃ d, ds[i]? = some d := ⟨ds[i], List.getElem?_eq_getElem hlt⟩
    have hdr : ds.drop i = d :: ds.drop (i + 1) := by
      rw [List.drop_eq_getElem_cons hlt]
      rw [List.getElem?_eq_getElem hlt] at hd
      cases hd; rfl
    rw [hdr] at h
    refine .inr ⟨w.go i H (hG _ _ _ _ sim) hlt, fun σ' H' => ∃ oa en, Sim K b oa σ' H' en ∧ SOk K b Z De (forGo ftg fb (ds.drop (i + 1)) en), fun σ' H' ⟨oa', en', s', h'⟩ => ⟨ds.length - (i + 1), by omega, rfl, hlt, oa', en', s', h'⟩, fun x H' y => ?_⟩
    have op := (w.yld i H x H' (hG _ _ _ _ sim) y d hd).up sim.base
    obtain ⟨s1, x1, r1⟩ := (op.aft sim).plain
    refine ⟨b, en, oa, d, s1, r1, ?_⟩
    rw [show forGo ftg fb (d :: ds.drop (i + 1)) en = (match ftg d en with
      | .ok _ en1 => match fb en1 with
        | .nx en2 => forGo ftg fb (ds.drop (i + 1)) en2
        | .cnt en2 => forGo ftg fb (ds.drop (i + 1)) en2
        | .brk en2 => .nx en2
        | r => r
      | _ => .err) from rfl] at h
    cases e1 : ftg d en with
    | err => rw [e1] at h; exact h
    | exc z en1 => rw [e1] at h; exact h
    | ok u en1 =>
      rw [e1] at h
      simp only at h ⊢
      intro σ2 H2 s2 _ _ _
      refine ⟨b, en1, oa, s2, ?_⟩
      cases e2 : fb en1 with
      | err => rw [e2] at h; exact h
      | nx en2 => rw [e2] at h; exact fun oa σ H s => ⟨oa, en2, s, h⟩
      | cnt en2 => rw [e2] at h; exact fun oa σ H s => ⟨oa, en2, s, h⟩
      | brk en2 => rw [e2] at h; exact h
      | ret r en2 => rw [e2] at h; exact h
      | exc z en2 => rw [e2] at h; exact h
  · have e : i = ds.length := by omega
    subst e
    rw [List.drop_length] at h
    exact .inl ⟨w.stop _ H (hG _ _ _ _ sim) (Nat.le_refl _), h oa σ H sim⟩
theorem for_ends {ftg : D → M Unit} {fb : Fr → SRes} : ∀ {ds : List D} {en : Fr}, (∃ en', forGo ftg fb ds en = .nx en') ∨ (∃ r en', forGo ftg fb ds en = .ret r en') ∨ (∃ x en', forGo ftg fb ds en = .exc x en') ∨ forGo ftg fb ds en = .err
  | [], en => .inl ⟨en, rfl⟩
  | d :: ds, en => by
    unfold forGo
    cases ftg d en with
    | err => exact .inr (.inr (.inr rfl))
    | exc x en1 => exact .inr (.inr (.inr rfl))
    | ok u en1 =>
      simp only
      cases fb en1 with
      | nx en2 => exact for_ends
      | cnt en2 => exact for_ends
      | brk en2 => exact .inl ⟨_, rfl⟩
      | ret r en2 => exact .inr (.inl ⟨_, _, rfl⟩)
      | exc x en2 => exact .inr (.inr (.inl ⟨_, _, rfl⟩))
      | err => exact .inr (.inr (.inr rfl))
end
theorem ms_for {X : Cx} {Z : ZT} {tg iter : Expr} {body : List Stmt} {pos : Pos} {sl : List Nat} {fi : M Src} {ftg : D → M Unit} {fb : Fr → SRes} (hp : PassesOwn (model X.prog X.w) X.A X.env X.xe) (hc : X.calm = true) (hi : PI X tg iter (tI X.K Z fi)) (hg : PG X tg (tG X.K sl ftg)) (hb : PSs X body (tS X.K Z fb))
    (hs : ∀ x, foldedSetIterable iter X.env x = pure x) : PS X (.For tg iter body [] pos) (tS X.K Z (xFor fi ftg fb)) := by
  refine ps_imp (ps_for hp hc hi hg hb hs) fun De σ H h => ?_
  obtain ⟨b, en, oa, sim, h⟩ := h
  refine ⟨b, en, oa, sim, ?_⟩
  unfold xFor at h
  cases e1 : fi en with
  | err => rw [e1] at h; exact h
  | exc x en1 =>
    rw [e1] at h
    exact fun H' s' => h oa σ H' s'
  | ok src en1 =>
    rw [e1] at h
    intro J H1 s1 x1 so
    cases src with
    | fz ds =>
      simp only at h
      have gb : Same b.B (b.grow (Frz b H1 en1 oa)).B := s1.base
      have h' : SOk X.K (b.grow (Frz b H1 en1 oa)) Z De (forGo ftg fb ds en1) := by
        rcases for_ends (ftg := ftg) (fb := fb) (ds := ds) (en := en1) with ⟨en', e⟩ | ⟨r, en', e⟩ | ⟨x, en', e⟩ | e
        · rw [e] at h ⊢; exact (to_grow gb).nx h
        · rw [e] at h ⊢; exact (to_grow gb).rt h
        · rw [e] at h ⊢; exact (to_grow gb).xc h
        · rw [e] at h; exact h.elim
      exact for_core (b := b.grow (Frz b H1 en1 oa)) (Gh := Frz b H1 en1 oa) (fun _ _ _ _ s => s.base.trans hide_same) so s1.grow h'
    | lc i ds =>
      obtain ⟨vs, hl, hv, r, rfl⟩ := so
      simp only at h
      obtain ⟨s, hs', hs2⟩ : ∃ s, en1[i]? = some s ∧ (s = .own (.list ds) ∨ (s = .mu (.list ds) ∧ b.ma i = oa i)) := by
        rcases locAt_cases hl with e | e
        · exact ⟨_, e, .inl rfl⟩
        · exact ⟨_, e, .inr ⟨rfl, (s1.muA i _ e).symm⟩⟩
      rw [hs'] at h
      simp only at h
      obtain ⟨s2, fz⟩ := s1.lend hl hv
      have hx := s1.xo i _ hl
      have h' : SOk X.K (lend b i (oa i) vs (Frz b H1 en1 oa)) Z De (forGo ftg fb ds (en1.set i .lent)) := by
        rcases for_ends (ftg := ftg) (fb := fb) (ds := ds) (en := en1.set i .lent) with ⟨en', e⟩ | ⟨r', en', e⟩ | ⟨x, en', e⟩ | e
        · rw [e] at h ⊢
          unfold giveBack at h
          simp only at h
          split at h
          · rename_i e3
            exact fun oa' σ' H' s' => h _ _ _ (to_unlend s1.base r hx hs2 e3 s').1
          · exact h.elim
        · rw [e] at h ⊢; exact (to_drop s1.base hx).rt h
        · rw [e] at h ⊢; exact (to_drop s1.base hx).xc h
        · rw [e] at h; exact h.elim
      have w : Walks X.K (Itl X.K (oa i)) (upd (Frz b H1 en1 oa) (oa i) (.lst vs)) (Frz b H1 en1 oa) ds := walks_list (.inl (.inl upd_same)) r
      refine for_core (b := lend b i (oa i) vs (Frz b H1 en1 oa)) (Gh := upd (Frz b H1 en1 oa) (oa i) (.lst vs)) (fun oa' σ' H' en' s' a o e => ?_) w s2 h'
      by_cases c : a = oa i
      · rw [c, upd_same] at e
        cases e
        have q := s'.xl (oa i) (.inr rfl)
        have e' : (lend b i (oa i) vs (Frz b H1 en1 oa)).xc (oa i) = vs := by show (if oa i = oa i then vs else b.xc (oa i)) = vs; rw [if_pos rfl]
        rw [e'] at q
        rw [c]; exact q
      · rw [upd_ne c] at e
        exact (s'.base.trans hide_same) a o e
end Mi
set_option Elab.async false
set_option linter.all false
set_option maxRecDepth 100000
set_option autoImplicit false
/-! Mi8: small statements, while, a def's body -/
namespace Mi
open PySem PySem.Spec L2
open PyProof.Rows (envOfC)

def xSeq (f g : Fr → SRes) (en : Fr) : SRes := match f en with
  | .nx en1 => g en1
  | r => r
def xNil (en : Fr) : SRes := .nx en
/-- name = value -/
def xSet (i : Nat) (f : M RV) (en : Fr) : SRes := match f en with
  | .ok (.val d _) en1 => match en1[i]? with
    | some (.mu _) => .err
    | some _ => .nx (en1.set i (.val d))
    | none => .err
  | .ok (.loc _) _ => .err
  | .exc x en1 => .exc x en1
  | .err => .err
/-- name = a new list, that may change -/
def xOwn (i : Nat) (f : M RV) (en : Fr) : SRes := match f en with
  | .ok (.val (.list ds) true) en1 => match en1[i]? with
    | some (.mu _) => .err
    | some _ => .nx (en1.set i (.own (.list ds)))
    | none => .err
  | .exc x en1 => .exc x en1
  | _ => .err
def xAsg (f : M RV) (g : D → M Unit) (en : Fr) : SRes := match f en with
  | .ok (.val d _) en1 => match g d en1 with
    | .ok _ en2 => .nx en2
    | _ => .err
  | .ok (.loc _) _ => .err
  | .exc x en1 => .exc x en1
  | .err => .err
def xExpr (f : M RV) (en : Fr) : SRes := match f en with
  | .ok _ en1 => .nx en1
  | .exc x en1 => .exc x en1
  | .err => .err
def xRet (f : M RV) (en : Fr) : SRes := match f en with
  | .ok r en1 => .ret r en1
  | .exc x en1 => .exc x en1
  | .err => .err
def xIf (t : M Bool) (f g : Fr → SRes) (en : Fr) : SRes := match t en with
  | .ok k en1 => if k = true then f en1 else g en1
  | .exc x en1 => .exc x en1
  | .err => .err
def xWhile (t : M Bool) (f : Fr → SRes) : Nat → Fr → SRes
  | 0, _ => .err
  | n + 1, en => match t en with
    | .ok k en1 => if k = true then match f en1 with
        | .nx en2 => xWhile t f n en2
        | .cnt en2 => xWhile t f n en2
        | .brk en2 => .nx en2
        | r => r
      else .nx en1
    | .exc x en1 => .exc x en1
    | .err => .err
/-- name op= value, by values -/
def xAug (i : Nat) (g : G2) (f : M RV) (en : Fr) : SRes := match en[i]? with
  | some (.val d1) => match f en with
    | .ok r en1 => match rvD en1 r with
      | some d2 => match g d1 d2, en1[i]? with
        | some (d, _), some (.val _) => .nx (en1.set i (.val d))
        | _, _ => .err
      | none => .err
    | .exc x en1 => .exc x en1
    | .err => .err
  | _ => .err
section
variable {X : Cx} {Z : ZT} {fa : M RV}
theorem SOk.mono {K : PySem.W.Frag} {b : Bs} {De De' : Ends} {r : SRes} (h : SOk K b Z De r) (n : ∀ σ H, De.nx σ H → De'.nx σ H) (k : ∀ σ H, De.bk σ H → De'.bk σ H) (c : ∀ σ H, De.ct σ H → De'.ct σ H) (t : ∀ v H, De.rt v H → De'.rt v H) : SOk K b Z De' r := by
  cases r with
  | nx en => exact fun oa σ H s => n _ _ (h oa σ H s)
  | ret r en => exact fun oa σ H v s => t _ _ (h oa σ H v s)
  | brk en => exact fun oa σ H s => k _ _ (h oa σ H s)
  | cnt en => exact fun oa σ H s => c _ _ (h oa σ H s)
  | exc x en => exact h
  | err => exact h
theorem mss_nil : PSs X [] (tS X.K Z xNil) := pss_imp pss_nil fun De σ H h => by
  obtain ⟨b, en, oa, sim, h⟩ := h
  exact h oa σ H sim
theorem mss_cons {st : Stmt} {rest : List Stmt} {f g : Fr → SRes} (h1 : PS X st (tS X.K Z f)) (h2 : PSs X rest (tS X.K Z g)) : PSs X (st :: rest) (tS X.K Z (xSeq f g)) := by
  refine pss_imp (pss_cons h1 h2) fun De σ H h => ?_
  obtain ⟨b, en, oa, sim, h⟩ := h
  refine ⟨b, en, oa, sim, ?_⟩
  unfold xSeq at h
  cases e1 : f en with
  | nx en1 =>
    rw [e1] at h
    exact fun oa σ H s => ⟨b, en1, oa, s, h⟩
  | ret r en1 => rw [e1] at h; exact h
  | brk en1 => rw [e1] at h; exact h
  | cnt en1 => rw [e1] at h; exact h
  | exc x en1 => rw [e1] at h; exact h
  | err => rw [e1] at h; exact h
/-- the stores of a value in a name -/
theorem set_ok {σ : St} {H : Hp} {De : Ends} {i : Nat} (h : tS X.K Z (xSet i fa) De σ H) : tE X.K Z fa σ H fun x H1 => gName i x σ H1 De.nx := by
  obtain ⟨b, en, oa, sim, h⟩ := h
  refine ⟨b, en, oa, sim, ?_⟩
  unfold xSet at h
  cases e1 : fa en with
  | err => rw [e1] at h; exact h
  | exc x en1 => rw [e1] at h; exact fun H' s' => h oa σ H' s'
  | ok r en1 =>
    rw [e1] at h
    intro v H1 a1
    obtain ⟨s1, x1, rv⟩ := a1.plain
    cases r with
    | loc j => exact h.elim
    | val d fr =>
      simp only at h
      cases e2 : en1[i]? with
      | none => rw [e2] at h; exact h.elim
      | some s =>
        rw [e2] at h
        have key : SOk X.K b Z De (.nx (en1.set i (.val d))) → gName i v σ H1 De.nx := fun h => h oa _ H1 (s1.setVal (lt_of_get e2) rv).1
        cases s with
        | mu m => exact h.elim
        | _ => exact key h
theorem own_ok {σ : St} {H : Hp} {De : Ends} {i : Nat} (h : tS X.K Z (xOwn i fa) De σ H) : tE X.K Z fa σ H fun x H1 => gName i x σ H1 De.nx := by
  obtain ⟨b, en, oa, sim, h⟩ := h
  refine ⟨b, en, oa, sim, ?_⟩
  unfold xOwn at h
  cases e1 : fa en with
  | err => rw [e1] at h; exact h
  | exc x en1 => rw [e1] at h; exact fun H' s' => h oa σ H' s'
  | ok r en1 =>
    rw [e1] at h
    intro v H1 a1
    cases r with
    | loc j => exact h.elim
    | val d fr =>
      cases d with
      | list ds =>
        cases fr with
        | false => exact h.elim
        | true =>
          obtain ⟨G, p, vs, ds', rfl, e3, hp, rfl, s1, x1, r1⟩ := a1
          cases e3
          simp only at h
          cases e2 : en1[i]? with
          | none => rw [e2] at h; exact h.elim
          | some s =>
            rw [e2] at h
            have key : SOk X.K b Z De (.nx (en1.set i (.own (.list ds)))) → gName i (.ref p) σ (upd G p (.lst vs)) De.nx := fun h => h _ _ _ (s1.setOwn (lt_of_get e2) hp r1)
            cases s with
            | mu m => exact h.elim
            | _ => exact key h
      | _ => exact h.elim
theorem ms_set {i : Nat} {x : Str} {e : Expr} {pos pos' : Pos} (hN : X.N.Nodup) (hi : X.N[i]? = some x) (hx : Loc X.env.scope x) (he : PE X e (tE X.K Z fa)) (hs : swapsWith e (some (.Name x pos')) pos.line X.env = pure false) (hf : X.fn x = true ∨ X.env.scope.names.lookup x = some .local) :
    PS X (.Assign [.Name x pos'] e pos) (tS X.K Z (xSet i fa)) := ps_imp (ps_set hN hi hx he hs hf) fun De σ H h => set_ok h
theorem ms_own {i : Nat} {x : Str} {e : Expr} {pos pos' : Pos} (hN : X.N.Nodup) (hi : X.N[i]? = some x) (hx : Loc X.env.scope x) (he : PE X e (tE X.K Z fa)) (hs : swapsWith e (some (.Name x pos')) pos.line X.env = pure false) (hf : X.fn x = true ∨ X.env.scope.names.lookup x = some .local) :
    PS X (.Assign [.Name x pos'] e pos) (tS X.K Z (xOwn i fa)) := ps_imp (ps_set hN hi hx he hs hf) fun De σ H h => own_ok h
theorem ms_asg {tg e : Expr} {pos : Pos} {sl : List Nat} {g : D → M Unit} (he : PE X e (tE X.K Z fa)) (hg : PG X tg (tG X.K sl g)) (hs : swapsWithSole [tg] e pos.line X.env = pure false) (hw : swappedStores [tg] e X.env = pure none)
    (h1 : (assignEach [tg] X.env).map (·.2) = [assign tg X.env]) : PS X (.Assign [tg] e pos) (tS X.K Z (xAsg fa g)) := by
  refine ps_imp (ps_asg he hg hs hw h1) fun De σ H h => ?_
  obtain ⟨b, en, oa, sim, h⟩ := h
  refine ⟨b, en, oa, sim, ?_⟩
  unfold xAsg at h
  cases e1 : fa en with
  | err => rw [e1] at h; exact h
  | exc x en1 => rw [e1] at h; exact fun H' s' => h oa σ H' s'
  | ok r en1 =>
    rw [e1] at h
    intro v H1 a1
    obtain ⟨s1, x1, rv⟩ := a1.plain
    cases r with
    | loc j => exact h.elim
    | val d fr =>
      simp only at h
      refine ⟨b, en1, oa, d, s1, rv, ?_⟩
      cases e2 : g d en1 with
      | err => rw [e2] at h; exact h
      | exc x en2 => rw [e2] at h; exact h
      | ok u en2 => rw [e2] at h; exact fun σ' H' s' _ _ _ => h oa σ' H' s'
theorem ms_expr {e : Expr} {pos : Pos} (he : PE X e (tE X.K Z fa)) (hs : swapsWith e none pos.line X.env = pure false) : PS X (.Expr e pos) (tS X.K Z (xExpr fa)) := by
  refine ps_imp (ps_expr he hs) fun De σ H h => ?_
  obtain ⟨b, en, oa, sim, h⟩ := h
  refine ⟨b, en, oa, sim, ?_⟩
  unfold xExpr at h
  cases e1 : fa en with
  | err => rw [e1] at h; exact h
  | exc x en1 => rw [e1] at h; exact fun H' s' => h oa σ H' s'
  | ok r en1 => rw [e1] at h; exact fun v H1 a1 => h oa σ H1 a1.plain.1
theorem ms_ret {e : Expr} {pos : Pos} (he : PE X e (tE X.K Z fa)) : PS X (.Return (some e) pos) (tS X.K Z (xRet fa)) := by
  refine ps_imp (ps_ret he) fun De σ H h => ?_
  obtain ⟨b, en, oa, sim, h⟩ := h
  refine ⟨b, en, oa, sim, ?_⟩
  unfold xRet at h
  cases e1 : fa en with
  | err => rw [e1] at h; exact h
  | exc x en1 => rw [e1] at h; exact fun H' s' => h oa σ H' s'
  | ok r en1 => rw [e1] at h; exact fun v H1 a1 => h oa σ H1 v a1.ret
def evNone : M RV := fun en => .ok (.val .none false) en
theorem ms_retN {pos : Pos} : PS X (.Return none pos) (tS X.K Z (xRet evNone)) := ps_imp ps_retN fun De σ H h => by
  obtain ⟨b, en, oa, sim, h⟩ := h
  exact h oa σ H .non ⟨sim, .non⟩
theorem ms_if {c : Expr} {p q : List Stmt} {pos : Pos} {t : M Bool} {f g : Fr → SRes} (hc : PT X c (tT X.K Z t)) (ha : PSs X p (tS X.K Z f)) (hb : PSs X q (tS X.K Z g)) : PS X (.If c p q pos) (tS X.K Z (xIf t f g)) := by
  refine ps_imp (ps_if hc ha hb) fun De σ H h => ?_
  obtain ⟨b, en, oa, sim, h⟩ := h
  refine ⟨b, en, oa, sim, ?_⟩
  unfold xIf at h
  cases e1 : t en with
  | err => rw [e1] at h; exact h
  | exc x en1 => rw [e1] at h; exact fun H' s' => h oa σ H' s'
  | ok k en1 =>
    rw [e1] at h
    intro H1 s1 x1
    cases k with
    | true => exact ⟨b, en1, oa, s1, h⟩
    | false => exact ⟨b, en1, oa, s1, h⟩
theorem ms_pass {pos : Pos} : PS X (.Pass pos) (tS X.K Z xNil) := ps_imp ps_pass fun De σ H h => by
  obtain ⟨b, en, oa, sim, h⟩ := h
  exact h oa σ H sim
theorem ms_break {pos : Pos} : PS X (.Break pos) (tS X.K Z .brk) := ps_imp ps_break fun De σ H h => by
  obtain ⟨b, en, oa, sim, h⟩ := h
  exact h oa σ H sim
theorem ms_cont {pos : Pos} : PS X (.Continue pos) (tS X.K Z .cnt) := ps_imp ps_continue fun De σ H h => by
  obtain ⟨b, en, oa, sim, h⟩ := h
  exact h oa σ H sim
theorem ms_while {c : Expr} {body : List Stmt} {pos : Pos} {t : M Bool} {f : Fr → SRes} {n : Nat} (hp : PassesOwn (model X.prog X.w) X.A X.env X.xe) (hc : PT X c (tT X.K Z t)) (hb : PSs X body (tS X.K Z f)) : PS X (.While c body [] pos) (tS X.K Z (xWhile t f n)) := by
  refine ps_imp (ps_while hp hc hb) fun De σ H h => ?_
  obtain ⟨b, en, oa, sim, h⟩ := h
  refine ⟨fun m σ H => ∃ oa en, Sim X.K b oa σ H en ∧ SOk X.K b Z De (xWhile t f m en), ⟨n, oa, en, sim, h⟩, ?_⟩
  rintro m σ H ⟨oa, en, sim, h⟩
  cases m with
  | zero => exact h.elim
  | succ m =>
    refine ⟨b, en, oa, sim, ?_⟩
    unfold xWhile at h
    cases e1 : t en with
    | err => rw [e1] at h; exact h
    | exc x en1 => rw [e1] at h; exact fun H' s' => h oa σ H' s'
    | ok k en1 =>
      rw [e1] at h
      intro H1 s1 x1
      cases k with
      | false => exact h oa σ H1 s1
      | true =>
        simp only [if_true] at h ⊢
        refine ⟨fun σ H => ∃ oa en, Sim X.K b oa σ H en ∧ SOk X.K b Z De (xWhile t f m en), fun σ' H' q => ⟨m, Nat.lt_succ_self m, q⟩, b, en1, oa, s1, ?_⟩
        cases e2 : f en1 with
        | err => rw [e2] at h; exact h
        | nx en2 => rw [e2] at h; exact fun oa σ H s => ⟨oa, en2, s, h⟩
        | cnt en2 => rw [e2] at h; exact fun oa σ H s => ⟨oa, en2, s, h⟩
        | brk en2 => rw [e2] at h; exact h
        | ret r en2 => rw [e2] at h; exact h
        | exc z en2 => rw [e2] at h; exact h
/-- a, b = x, y, both plain local names: stored from the right -/
def xPar (i j : Nat) (fs : List (M RV)) (oi oj : Bool) (en : Fr) : SRes := match evAll fs en with
  | .ok [.val d1 f1, .val d2 f2] en1 => match en1[i]?, en1[j]? with
    | some (.mu _), _ => .err
    | _, some (.mu _) => .err
    | some _, some _ => if i = j then .err else .nx ((en1.set i (.val d1)).set j (.val d2))
    | _, _ => .err
  | .exc x en1 => .exc x en1
  | _ => .err
end

/-! ### a def's body -/
def outOf (mo : Option D) (en : Fr) : Option (Option D) := match mo with
  | none => some none
  | some _ => match en[(0 : Nat)]? with
    | some (.mu (.list ds)) => some (some (.list ds))
    | _ => none
def moN : Option D → Nat
  | some _ => 1
  | none => 0
def start0 (n : Nat) (mo : Option D) (ds : List D) : Fr := (match mo with | some m => [.mu m] | none => []) ++ ds.map .val ++ List.replicate (n - ds.length - moN mo) .un
def endF (mo : Option D) : SRes → FRes
  | .nx en => match outOf mo en with
    | some o => .ok .none false o
    | none => .err
  | .ret (.val d fr) en => match outOf mo en with
    | some o => .ok d fr o
    | none => .err
  | .exc x en => match outOf mo en with
    | some o => .exc x o
    | none => .err
  | _ => .err
def runF (n : Nat) (f : Fr → SRes) : FSem := fun mo ds => endF mo (f (start0 n mo ds))
/-- g says of the body no more than it does -/
def Says (n : Nat) (f : Fr → SRes) (g : FSem) : Prop := ∀ mo ds, g mo ds ≠ .err → runF n f mo ds = g mo ds
/-- no error is told -/
def NoExc (g : FSem) : Prop := ∀ mo ds x o, g mo ds ≠ .exc x o
section
variable {P : Program} {w : World} {K : PySem.W.Frag} {mg : Str → Option Value} {base : Heap}
theorem start0_len {n : Nat} {mo : Option D} {ds : List D} (h : ds.length + moN mo ≤ n) : (start0 n mo ds).length = n := by
  unfold start0
  cases mo with
  | none =>
    simp only [moN] at h ⊢
    rw [List.length_append, List.length_append, List.length_map, List.length_replicate, List.length_nil]
    omega
  | some m =>
    simp only [moN] at h ⊢
    rw [List.length_append, List.length_append, List.length_map, List.length_replicate, List.length_singleton]
    omega
/-- a frame of arguments fits the def's slots -/
theorem start_sim {H : Hp} {ma : Option (Addr × D)} {ws : List V} {ds : List D} {N : List Str} (hN : (argsM ma ws).length ≤ N.length) (hc : ∀ a m, ma = some (a, m) → Cont K (FrzM H ma) H a m) (r : DpAll K (FrzM H ma) ws ds) :
    ∃ b oa, Sim K b oa (start N (argsM ma ws)) H (start0 N.length (ma.map (·.2)) ds) ∧ b.B = FrzM H ma ∧ (∀ a m, ma = some (a, m) → b.ma 0 = a) ∧ ∀ a, ¬ b.xh a := by
  have lw := dpAll_len r
  cases ma with
  | none =>
    have en0 : ∀ i, locAt (start0 N.length none ds) i = none := fun i => by
      unfold locAt start0
      rw [List.nil_append, List.getElem?_append]
      split
      · rw [List.getElem?_map]
        cases ds[i]? <;> rfl
      · rw [List.getElem?_replicate]
        split <;> rfl
    have nl : ∀ (i : Nat) (s : Sl), (start0 N.length none ds)[i]? = some s → s ≠ .lent := fun i s h => by
      unfold start0 at h
      rw [List.nil_append, List.getElem?_append] at h
      split at h
      · rw [List.getElem?_map] at h
        cases e : ds[i]? with
        | none => rw [e] at h; cases h
        | some d => rw [e] at h; cases h; intro z; cases z
      · rw [List.getElem?_replicate] at h
        split at h
        · cases h; intro z; cases z
        · cases h
    have nm : ∀ (i : Nat) (d : D), (start0 N.length none ds)[i]? ≠ some (.mu d) := fun i d h => by
      have q := en0 i
      unfold locAt at q
      rw [h] at q; cases q
    let b : Bs := { B := FrzM H none, ma := fun _ => 0, xh := fun _ => False, xc := fun _ => [] }
    have fz : Frz b H (start0 N.length none ds) (fun _ => 0) = FrzM H none := hide_congr (fun a => ⟨fun z => z.elim False.elim fun ⟨i, d, e, _⟩ => (by rw [en0 i] at e; cases e), fun ⟨d, e⟩ => (by cases e)⟩) fun _ _ => rfl
    refine ⟨b, fun _ => 0, ⟨?_, fun i d e => ?_, fun i d e => ?_, fun i j d d' e => ?_, (by show Same b.B (Frz b H (start0 N.length none ds) (fun _ => 0)); rw [fz]; exact Same.refl _), fun i d e => absurd e (nm i d), fun a z => z.elim, fun i d e z => z, fun i e => absurd rfl (nl i _ e)⟩, rfl, fun a m e => (by cases e), fun a z => z⟩
    · show (start N ws).length = (start0 N.length none ds).length
      have hN' : ws.length ≤ N.length := hN
      rw [start0_len (by simp only [moN]; omega)]
      unfold L2.start
      rw [List.length_append, List.length_map, List.length_replicate]; omega
    · show ∃ v, (start N ws)[i]? = some (some v) ∧ Dp K (Frz b H (start0 N.length none ds) (fun _ => 0)) v d
      rw [fz]
      have e : (start0 N.length none ds)[i]? = some (.val d) := e
      unfold start0 at e
      rw [List.nil_append, List.getElem?_append] at e
      split at e
      · rename_i hlt
        rw [List.getElem?_map] at e
        cases e2 : ds[i]? with
        | none => rw [e2] at e; cases e
        | some d' =>
          rw [e2] at e
          cases e
          obtain ⟨v, h1, h2⟩ := dpAll_get r e2
          refine ⟨v, ?_, h2⟩
          unfold L2.start
          rw [List.getElem?_append_left (by rw [List.length_map]; exact lt_of_get h1), List.getElem?_map, h1]
          rfl
      · rw [List.getElem?_replicate] at e
        split at e <;> cases e
    · rw [show locAt (start0 N.length (none.map (fun x : Addr × D => x.2)) ds) i = none from en0 i] at e; cases e
    · rw [show locAt (start0 N.length (none.map (fun x : Addr × D => x.2)) ds) i = none from en0 i] at e; cases e
  | some p =>
    obtain ⟨a, m⟩ := p
    have hc' := hc a m rfl
    have e0 : (start0 N.length (some m) ds)[0]? = some (.mu m) := rfl
    have eS : ∀ i, (start0 N.length (some m) ds)[i + 1]? = (ds.map Sl.val ++ List.replicate (N.length - ds.length - 1) .un)[i]? := fun i => by
      show ((Sl.mu m :: ds.map Sl.val) ++ List.replicate (N.length - ds.length - 1) .un)[i + 1]? = _
      rw [List.cons_append, List.getElem?_cons_succ]
    have en1 : ∀ i, locAt (start0 N.length (some m) ds) (i + 1) = none := fun i => by
      unfold locAt
      rw [eS, List.getElem?_append]
      split
      · rw [List.getElem?_map]
        cases ds[i]? <;> rfl
      · rw [List.getElem?_replicate]
        split <;> rfl
    have l0 : locAt (start0 N.length (some m) ds) 0 = some m := rfl
    have loc0 : ∀ {i : Nat} {d : D}, locAt (start0 N.length (some m) ds) i = some d → i = 0 ∧ d = m := fun {i d} e => by
      cases i with
      | zero => rw [l0] at e; cases e; exact ⟨rfl, rfl⟩
      | succ i => rw [en1 i] at e; cases e
    have nl : ∀ (i : Nat), (start0 N.length (some m) ds)[i]? ≠ some .lent := fun i h => by
      cases i with
      | zero => rw [e0] at h; cases h
      | succ i =>
        rw [eS, List.getElem?_append] at h
        split at h
        · rw [List.getElem?_map] at h
          cases e : ds[i]? with
          | none => rw [e] at h; cases h
          | some d => rw [e] at h; cases h
        · rw [List.getElem?_replicate] at h
          split at h <;> cases h
    let b : Bs := { B := FrzM H (some (a, m)), ma := fun _ => a, xh := fun _ => False, xc := fun _ => [] }
    have fz : Frz b H (start0 N.length (some m) ds) (fun _ => a) = FrzM H (some (a, m)) := hide_congr (fun x => ⟨fun z => z.elim False.elim fun ⟨i, d, e, q⟩ => ⟨m, by rw [← q]⟩, fun ⟨d, e⟩ => by
      injection e with e; injection e with e1 e2
      exact .inr ⟨0, m, l0, e1⟩⟩) fun _ _ => rfl
    refine ⟨b, fun _ => a, ⟨?_, fun i d e => ?_, fun i d e => ?_, fun i j d d' e e' _ => ?_, by show Same b.B (Frz b H (start0 N.length (some m) ds) (fun _ => a)); rw [fz]; exact Same.refl _, fun i d e => rfl, fun x z => z.elim, fun i d e z => z, fun i e => absurd e (nl i)⟩, rfl, fun x m' e => (by cases e; rfl), fun x z => z⟩
    · show (start N (.ref a :: ws)).length = (start0 N.length (some m) ds).length
      have hN' : ws.length + 1 ≤ N.length := hN
      rw [start0_len (by simp only [moN]; omega)]
      unfold L2.start
      rw [List.length_append, List.length_map, List.length_replicate, List.length_cons]; omega
    · show ∃ v, (start N (.ref a :: ws))[i]? = some (some v) ∧ Dp K (Frz b H (start0 N.length (some m) ds) (fun _ => a)) v d
      rw [fz]
      have e : (start0 N.length (some m) ds)[i]? = some (.val d) := e
      cases i with
      | zero => rw [e0] at e; cases e
      | succ i =>
        rw [eS, List.getElem?_append] at e
        split at e
        · rw [List.getElem?_map] at e
          cases e2 : ds[i]? with
          | none => rw [e2] at e; cases e
          | some d' =>
            rw [e2] at e
            cases e
            obtain ⟨v, h1, h2⟩ := dpAll_get r e2
            refine ⟨v, ?_, h2⟩
            unfold L2.start
            rw [List.map_cons, List.cons_append, List.getElem?_cons_succ, List.getElem?_append_left (by rw [List.length_map]; exact lt_of_get h1), List.getElem?_map, h1]
            rfl
        · rw [List.getElem?_replicate] at e
          split at e <;> cases e
    · obtain ⟨rfl, rfl⟩ := loc0 e
      refine ⟨rfl, ?_⟩
      show Cont K (Frz b H (start0 N.length (some d) ds) (fun _ => a)) H a d
      rw [fz]; exact hc'
    · obtain ⟨rfl, _⟩ := loc0 e
      obtain ⟨rfl, _⟩ := loc0 e'
      rfl
/-- what stands behind the body, in the caller's eyes -/
theorem end_fin {b : Bs} {oa : Nat → Addr} {σ : St} {H F : Hp} {en : Fr} {ma : Option (Addr × D)} {o : Option D} (sim : Sim K b oa σ H en) (hB : b.B = F) (hm : ∀ a m, ma = some (a, m) → b.ma 0 = a) (ho : outOf (ma.map (·.2)) en = some o) :
    FinM K F ma o H ∧ Same (Frz b H en oa) (FrzM H ma) := by
  have key : ∀ x, MaAt ma x → Hid b en oa x := fun x ⟨m, e⟩ => by
    subst e
    unfold outOf at ho
    simp only [Option.map_some] at ho
    split at ho
    · rename_i ds e
      exact .inr ⟨0, _, locAt_mu e, (sim.muA 0 _ e).trans (hm x m rfl)⟩
    · cases ho
  have sm : Same (Frz b H en oa) (FrzM H ma) := hide_mono (fun _ _ _ e => e) fun x z => .inl (key x z)
  refine ⟨⟨by rw [← hB]; exact sim.base.trans sm, fun a m e => ?_⟩, sm⟩
  subst e
  unfold outOf at ho
  simp only [Option.map_some] at ho
  split at ho
  · rename_i ds e
    cases ho
    have ea : oa 0 = a := (sim.muA 0 _ e).trans (hm a m rfl)
    have c := (sim.loc 0 _ (locAt_mu e)).2
    rw [ea] at c
    exact ⟨_, rfl, c.mono sm fun _ z => z⟩
  · cases ho
theorem fn_ok {x qual : Str} {st : Stmt} {f : Addr} {fd : FuncData} {N ps : List Str} {k : Nat} {g : FSem} {body : Fr → SRes} (F : Fun K x qual st f fd) (S : FnScope N ps (defScope st)) (hx : NoExc g) (hg : Says N.length body g)
    (hb : ∀ (cdv : Value) (A : Around) (outer : List PySem.Env) (s : Shared) (H : Hp) (E : XK), Room k (A.deeper (envOfC qual (defScope st) s.heap.objs.size f cdv)) → PSs (cxOf CX0 P w K mg base N qual (defScope st) f cdv A outer s H E).nox (defBody st) (tS K (fun _ _ _ => False) body)) :
    FnOk P w K mg base CX0 (k + 1) f fd ps (spM K ps.length g) := by
  refine F.ok S (fun vs H Q E h => ?_) fun cdv A outer s H vs Q E hr h => ⟨_, hb cdv A outer s H E hr, ?_⟩
  · obtain ⟨_, _, _, _, h, _⟩ := h
    exact h
  obtain ⟨ma, ws, ds, rfl, hl, hc, dp, h⟩ := h
  have hN : (argsM ma ws).length ≤ N.length := by
    rw [hl, ← S.pre, List.length_take]; exact Nat.min_le_right _ _
  obtain ⟨b, oa, sim, hB, hm, hxh⟩ := start_sim (K := K) (H := H) (ma := ma) (ws := ws) (ds := ds) (N := N) hN hc dp
  refine ⟨b, _, oa, sim, ?_⟩
  have ne : g (ma.map (·.2)) ds ≠ .err := fun e => by rw [e] at h; exact h
  have hr2 := hg (ma.map (·.2)) ds ne
  unfold runF at hr2
  cases e1 : body (start0 N.length (ma.map (·.2)) ds) with
  | err => rw [e1] at hr2; exact (ne hr2.symm).elim
  | brk en => rw [e1] at hr2; exact (ne hr2.symm).elim
  | cnt en => rw [e1] at hr2; exact (ne hr2.symm).elim
  | exc y en =>
    rw [e1] at hr2
    unfold endF at hr2
    simp only at hr2
    split at hr2
    · exact (hx _ _ _ _ hr2.symm).elim
    · exact (ne hr2.symm).elim
  | nx en =>
    rw [e1] at hr2
    unfold endF at hr2
    simp only at hr2
    cases e2 : outOf (ma.map (·.2)) en with
    | none => rw [e2] at hr2; exact (ne hr2.symm).elim
    | some o =>
      rw [e2] at hr2
      simp only at hr2
      rw [← hr2] at h
      intro oa' σ' H' s'
      obtain ⟨fin, _⟩ := end_fin s' hB hm e2
      exact h .non H' ⟨fin, .non⟩
  | ret r en =>
    rw [e1] at hr2
    cases r with
    | loc i => exact (ne hr2.symm).elim
    | val d fr =>
      unfold endF at hr2
      simp only at hr2
      cases e2 : outOf (ma.map (·.2)) en with
      | none => rw [e2] at hr2; exact (ne hr2.symm).elim
      | some o =>
        rw [e2] at hr2
        simp only at hr2
        rw [← hr2] at h
        intro oa' σ' H' v rt
        refine h v H' ?_
        cases fr with
        | false =>
          obtain ⟨s', rv⟩ := rt
          obtain ⟨fin, sm⟩ := end_fin s' hB hm e2
          exact ⟨fin, dp_mono sm rv⟩
        | true =>
          obtain ⟨G, p, vs, es, rfl, rfl, hp, rfl, s', rr⟩ := rt
          obtain ⟨fin, sm⟩ := end_fin s' hB hm e2
          exact ⟨G, p, vs, es, rfl, rfl, hp, rfl, fin, dpAll_mono sm rr⟩
end
end Mi
set_option Elab.async false
set_option linter.all false
set_option maxRecDepth 100000
set_option autoImplicit false
/-! Mi9: pairs stored, comprehensions -/
namespace Mi
open PySem PySem.Spec L2
open PyProof.Rows (envOfC)

/-- the names of a comprehension's own forgotten (they must be plain values or nothing) -/
def wipeOk (own : List Nat) : Nat → Fr → Bool
  | _, [] => true
  | k, s :: r => (match s with
    | .un => true
    | .val _ => true
    | _ => !own.contains k) && wipeOk own (k + 1) r
def wipeAt (own : List Nat) : Nat → Fr → Fr
  | _, [] => []
  | k, s :: r => (if own.contains k then .un else s) :: wipeAt own (k + 1) r
def backAt (own : List Nat) : Nat → Fr → Fr → Fr
  | k, s :: r, t :: u => (if own.contains k then s else t) :: backAt own (k + 1) r u
  | _, _, u => u
def wipeF (own : List Nat) (en : Fr) : Option Fr := if wipeOk own 0 en = true then some (wipeAt own 0 en) else none
theorem wipeAt_len (own : List Nat) : ∀ (en : Fr) (k : Nat), (wipeAt own k en).length = en.length
  | [], _ => rfl
  | _ :: r, k => by unfold wipeAt; rw [List.length_cons, List.length_cons, wipeAt_len own r]
theorem wipeAt_get (own : List Nat) : ∀ (en : Fr) (k i : Nat), (wipeAt own k en)[i]? = if own.contains (k + i) then en[i]?.map (fun _ => Sl.un) else en[i]?
  | [], k, i => by unfold wipeAt; split <;> simp
  | s :: r, k, 0 => by
    unfold wipeAt
    rw [List.getElem?_cons_zero, List.getElem?_cons_zero, Nat.add_zero]
    split <;> rfl
  | s :: r, k, i + 1 => by
    unfold wipeAt
    rw [List.getElem?_cons_succ, List.getElem?_cons_succ, wipeAt_get own r, show k + 1 + i = k + (i + 1) by omega]
theorem wipeOk_get (own : List Nat) : ∀ (en : Fr) (k i : Nat) (s : Sl), wipeOk own k en = true → en[i]? = some s → own.contains (k + i) = true → s = .un ∨ ∃ d, s = .val d
  | [], _, _, _, _, e, _ => by simp at e
  | t :: r, k, 0, s, h, e, c => by
    rw [List.getElem?_cons_zero] at e
    cases e
    unfold wipeOk at h
    rw [Bool.and_eq_true] at h
    rw [Nat.add_zero] at c
    have h1 := h.1
    cases t with
    | un => exact .inl rfl
    | val d => exact .inr ⟨d, rfl⟩
    | _ => simp only [c] at h1; cases h1
  | t :: r, k, i + 1, s, h, e, c => by
    unfold wipeOk at h
    rw [Bool.and_eq_true] at h
    rw [List.getElem?_cons_succ] at e
    exact wipeOk_get own r (k + 1) i s h.2 e (by rw [show k + 1 + i = k + (i + 1) by omega]; exact c)
theorem backAt_len (own : List Nat) : ∀ (e1 e3 : Fr) (k : Nat), (backAt own k e1 e3).length = e3.length
  | [], _, _ => by unfold backAt; rfl
  | _ :: _, [], _ => by unfold backAt; rfl
  | _ :: r, _ :: u, k => by unfold backAt; rw [List.length_cons, List.length_cons, backAt_len own r u]
theorem backAt_get (own : List Nat) : ∀ (e1 e3 : Fr) (k i : Nat), e1.length = e3.length → (backAt own k e1 e3)[i]? = if own.contains (k + i) then e1[i]? else e3[i]?
  | [], [], k, i, _ => by unfold backAt; split <;> rfl
  | [], _ :: _, _, _, h => by cases h
  | _ :: _, [], _, _, h => by cases h
  | s :: r, t :: u, k, 0, h => by
    unfold backAt
    rw [List.getElem?_cons_zero, List.getElem?_cons_zero, List.getElem?_cons_zero, Nat.add_zero]
    split <;> rfl
  | s :: r, t :: u, k, i + 1, h => by
    unfold backAt
    rw [List.getElem?_cons_succ, List.getElem?_cons_succ, List.getElem?_cons_succ, backAt_get own r u (k + 1) i (by simpa using h), show k + 1 + i = k + (i + 1) by omega]
theorem not_contains {own : List Nat} {j : Nat} (h : ¬ own.contains j = true) : j ∉ own := fun z => h (List.contains_iff_mem.mpr z)

section
variable {K : PySem.W.Frag} {b : Bs} {oa : Nat → Addr} {σ : St} {H H' : Hp} {en en' : Fr}
theorem wipe_hid {own : List Nat} (ok : wipeOk own 0 en = true) {a : Addr} : Hid b (wipeAt own 0 en) oa a ↔ Hid b en oa a := by
  have key : ∀ j d, locAt (wipeAt own 0 en) j = some d ↔ locAt en j = some d := fun j d => by
    unfold locAt
    rw [wipeAt_get, Nat.zero_add]
    split
    · rename_i c
      cases e : en[j]? with
      | none => simp
      | some s =>
        rcases wipeOk_get own en 0 j s ok e (by rw [Nat.zero_add]; exact c) with rfl | ⟨d', rfl⟩ <;> simp [Sl.loc]
    · exact Iff.rfl
  constructor
  · rintro (z | ⟨j, d, h1, h2⟩)
    · exact .inl z
    · exact .inr ⟨j, d, (key j d).mp h1, h2⟩
  · rintro (z | ⟨j, d, h1, h2⟩)
    · exact .inl z
    · exact .inr ⟨j, d, (key j d).mpr h1, h2⟩
theorem Sim.wiped {own : List Nat} (s : Sim K b oa σ H en) (ok : wipeOk own 0 en = true) {σ' : St} (hl : σ'.length = σ.length) (hk : ∀ j, j ∉ own → σ'[j]? = σ[j]?) :
    Sim K b oa σ' H (wipeAt own 0 en) ∧ Frz b H (wipeAt own 0 en) oa = Frz b H en oa := by
  have fz : Frz b H (wipeAt own 0 en) oa = Frz b H en oa := hide_congr (fun a => wipe_hid ok) fun _ _ => rfl
  have get : ∀ {j : Nat} {t : Sl}, (wipeAt own 0 en)[j]? = some t → t ≠ .un → j ∉ own ∧ en[j]? = some t := fun {j t} e n => by
    rw [wipeAt_get, Nat.zero_add] at e
    split at e
    · cases e2 : en[j]? with
      | none => rw [e2] at e; cases e
      | some u => rw [e2] at e; cases e; exact absurd rfl n
    · rename_i c
      exact ⟨not_contains c, e⟩
  have loc : ∀ {j : Nat} {d : D}, locAt (wipeAt own 0 en) j = some d → j ∉ own ∧ locAt en j = some d := fun {j d} e => by
    rcases locAt_cases e with q | q
    · obtain ⟨n, q⟩ := get q (by intro z; cases z); exact ⟨n, locAt_own q⟩
    · obtain ⟨n, q⟩ := get q (by intro z; cases z); exact ⟨n, locAt_mu q⟩
  refine ⟨⟨by rw [hl, wipeAt_len]; exact s.len, fun j d e => ?_, fun j d e => ?_, fun j j' d d' q q' e => s.inj j j' d d' (loc q).2 (loc q').2 e, by rw [fz]; exact s.base, fun j d e => ?_, s.xl, fun j d e => s.xo j d (loc e).2, fun j e => ?_⟩, fz⟩
  · obtain ⟨n, e⟩ := get e (by intro z; cases z)
    obtain ⟨v, h1, h2⟩ := s.val j d e
    rw [fz]
    exact ⟨v, by rw [hk j n]; exact h1, h2⟩
  · obtain ⟨n, e⟩ := loc e
    obtain ⟨h1, h2⟩ := s.loc j d e
    rw [fz]
    exact ⟨by rw [hk j n]; exact h1, h2⟩
  · exact s.muA j d (get e (by intro z; cases z)).2
  · obtain ⟨n, e⟩ := get e (by intro z; cases z)
    rw [hk j n]; exact s.lnt j e
/-- the names that a comprehension hid come back -/
theorem Sim.back {own : List Nat} {σ' : St} {H1 : Hp} {en1 : Fr} (s1 : Sim K b oa σ H1 en1) (ok : wipeOk own 0 en1 = true) (s : Sim K b oa σ' H en) (x : Same (Frz b H1 en1 oa) (Frz b H en oa)) (w : ∀ j t, own.contains j = true → en[j]? = some t → t = .un) (hk : ∀ j, j ∉ own → σ'[j]? = σ[j]?) (hl : σ'.length = σ.length) :
    Sim K b oa σ H (backAt own 0 en1 en) ∧ Frz b H (backAt own 0 en1 en) oa = Frz b H en oa := by
  have ll : en1.length = en.length := by rw [← s1.len, ← s.len, hl]
  have get : ∀ (j : Nat), (backAt own 0 en1 en)[j]? = if own.contains j then en1[j]? else en[j]? := fun j => by
    rw [backAt_get own en1 en 0 j ll, Nat.zero_add]
  have loc : ∀ (j : Nat) (d : D), locAt (backAt own 0 en1 en) j = some d ↔ locAt en j = some d := fun j d => by
    unfold locAt
    rw [get]
    split
    · rename_i c
      have l1 : en1[j]?.bind Sl.loc = none := by
        cases e : en1[j]? with
        | none => rfl
        | some t => rcases wipeOk_get own en1 0 j t ok e (by rw [Nat.zero_add]; exact c) with rfl | ⟨d', rfl⟩ <;> rfl
      have l2 : en[j]?.bind Sl.loc = none := by
        cases e : en[j]? with
        | none => rfl
        | some t => rw [w j t c e]; rfl
      rw [l1, l2]
    · exact Iff.rfl
  have nown : ∀ {j : Nat} {d : D}, locAt en j = some d → j ∉ own := fun {j d} e z => by
    unfold locAt at e
    cases e2 : en[j]? with
    | none => rw [e2] at e; cases e
    | some t => rw [e2, w j t (List.contains_iff_mem.mpr z) e2] at e; cases e
  have hid : ∀ a, Hid b (backAt own 0 en1 en) oa a ↔ Hid b en oa a := fun a => by
    constructor
    · rintro (z | ⟨j, d, h1, h2⟩)
      · exact .inl z
      · exact .inr ⟨j, d, (loc j d).mp h1, h2⟩
    · rintro (z | ⟨j, d, h1, h2⟩)
      · exact .inl z
      · exact .inr ⟨j, d, (loc j d).mpr h1, h2⟩
  have fz : Frz b H (backAt own 0 en1 en) oa = Frz b H en oa := hide_congr hid fun _ _ => rfl
  refine ⟨⟨by rw [backAt_len, ← s.len, hl], fun j d e => ?_, fun j d e => ?_, fun j j' d d' q q' e => s.inj j j' d d' ((loc _ _).mp q) ((loc _ _).mp q') e, by rw [fz]; exact s.base, fun j d e => ?_, s.xl, fun j d e => s.xo j d ((loc _ _).mp e), fun j e => ?_⟩, fz⟩
  · rw [get] at e
    rw [fz]
    split at e
    · obtain ⟨v, h1, h2⟩ := s1.val j d e
      exact ⟨v, h1, dp_mono x h2⟩
    · rename_i c
      obtain ⟨v, h1, h2⟩ := s.val j d e
      exact ⟨v, by rw [← hk j (not_contains c)]; exact h1, h2⟩
  · have e := (loc _ _).mp e
    obtain ⟨h1, h2⟩ := s.loc j d e
    rw [fz]
    exact ⟨by rw [← hk j (nown e)]; exact h1, h2⟩
  · rw [get] at e
    split at e
    · rename_i c
      rcases wipeOk_get own en1 0 j _ ok e (by rw [Nat.zero_add]; exact c) with z | ⟨d', z⟩ <;> cases z
    · exact s.muA j d e
  · rw [get] at e
    split at e
    · rename_i c
      rcases wipeOk_get own en1 0 j _ ok e (by rw [Nat.zero_add]; exact c) with z | ⟨d', z⟩ <;> cases z
    · rename_i c
      rw [← hk j (not_contains c)]; exact s.lnt j e

/-! ### the new list lies beside -/
def aside (b : Bs) (a : Addr) (vs : List V) (B : Hp) : Bs := { B := B, ma := b.ma, xh := fun x => b.xh x ∨ x = a, xc := fun x => open Classical in if x = a then vs else b.xc x }
theorem Sim.aside {p : Addr} {vs : List V} {B : Hp} (s : Sim K b oa σ H en) (hp : H p = none) (hB : Same B (Frz b H en oa)) : Sim K (aside b p vs B) oa σ (upd H p (.lst vs)) en ∧ Frz (aside b p vs B) (upd H p (.lst vs)) en oa = Frz b H en oa := by
  have fz : Frz (Mi.aside b p vs B) (upd H p (.lst vs)) en oa = Frz b H en oa := by
    funext a
    by_cases c : a = p
    · rw [frz_in (.inl (show (Mi.aside b p vs B).xh a from .inr c)), c, frz_out (s.unhid hp), hp]
    · by_cases h : Hid b en oa a
      · rw [frz_in h]
        exact frz_in (h.elim (fun z => .inl (show (Mi.aside b p vs B).xh a from .inl z)) .inr)
      · rw [frz_out h, frz_out fun z => h (z.elim (fun (z : b.xh a ∨ a = p) => z.elim .inl fun z => absurd z c) .inr), upd_ne c]
  have ne : ∀ {a : Addr} {o : HO}, H a = some o → a ≠ p := fun e => ne_of_none e hp
  refine ⟨⟨s.len, fun j d e => by rw [fz]; exact s.val j d e, fun j d e => ?_, s.inj, by rw [fz]; exact hB, s.muA, fun a z => ?_, fun j d e z => ?_, s.lnt⟩, fz⟩
  · rw [fz]
    obtain ⟨h1, h2⟩ := s.loc j d e
    exact ⟨h1, h2.mono (Same.refl _) fun o z => by rw [upd_ne (ne z)]; exact z⟩
  · show upd H p (.lst vs) a = some (.lst (if a = p then vs else b.xc a))
    by_cases c : a = p
    · rw [if_pos c, c, upd_same]
    · rw [if_neg c, upd_ne c]; exact s.xl a (z.resolve_right c)
  · rcases z with z | z
    · exact s.xo j d e z
    · obtain ⟨o, q⟩ := (s.loc j d e).2.there
      exact ne q z
/-- without it -/
theorem Sim.unaside {p : Addr} {vs : List V} {B : Hp} (hx : ¬ b.xh p) (hB : Same b.B B) (s : Sim K (Mi.aside b p vs B) oa σ H en) : ∃ G, G p = none ∧ H = upd G p (.lst vs) ∧ Sim K b oa σ G en ∧ Frz b G en oa = Frz (Mi.aside b p vs B) H en oa := by
  have hp : H p = some (.lst vs) := by
    have q := s.xl p (.inr rfl)
    have e : (Mi.aside b p vs B).xc p = vs := by show (if p = p then vs else b.xc p) = vs; rw [if_pos rfl]
    rw [e] at q; exact q
  let G : Hp := fun a => open Classical in if a = p then none else H a
  have gp : G p = none := by show (if p = p then none else H p) = none; rw [if_pos rfl]
  have gn : ∀ {a : Addr}, a ≠ p → G a = H a := fun {a} n => by show (if a = p then none else H a) = H a; rw [if_neg n]
  have fz : Frz b G en oa = Frz (Mi.aside b p vs B) H en oa := by
    funext a
    by_cases c : a = p
    · rw [frz_in (b := Mi.aside b p vs B) (.inl (show (Mi.aside b p vs B).xh a from .inr c)), c]
      by_cases h : Hid b en oa p
      · exact frz_in h
      · rw [frz_out h, gp]
    · by_cases h : Hid b en oa a
      · rw [frz_in h]
        exact (frz_in (h.elim (fun z => .inl (show (Mi.aside b p vs B).xh a from .inl z)) .inr)).symm
      · rw [frz_out h, gn c, frz_out fun z => h (z.elim (fun (z : b.xh a ∨ a = p) => z.elim .inl fun z => absurd z c) .inr)]
  have no : ∀ {j : Nat} {d : D}, locAt en j = some d → oa j ≠ p := fun {j d} e z => s.xo j d e (.inr z)
  refine ⟨G, gp, ?_, ⟨s.len, fun j d e => by rw [fz]; exact s.val j d e, fun j d e => ?_, s.inj, by rw [fz]; exact hB.trans s.base, s.muA, fun a z => ?_, fun j d e z => s.xo j d e (.inl z), s.lnt⟩, fz⟩
  · funext a
    by_cases c : a = p
    · rw [c, upd_same]; exact hp
    · rw [upd_ne c, gn c]
  · rw [fz]
    obtain ⟨h1, h2⟩ := s.loc j d e
    exact ⟨h1, h2.mono (Same.refl _) fun o z => (gn (no e)).trans z⟩
  · have c : a ≠ p := fun c => hx (c ▸ z)
    have q := s.xl a (.inl z)
    have e : (Mi.aside b p vs B).xc a = b.xc a := by show (if a = p then vs else b.xc a) = b.xc a; rw [if_neg c]
    rw [e] at q
    rw [gn c]; exact q
end

/-! ### a comprehension -/
/-- the items: target, tests, element; between the turns the names of its own are nothing -/
def compGo (own : List Nat) (ftg : D → M Unit) (ft : M Bool) (fe : M RV) : List D → M (List D)
  | [] => fun en => .ok [] en
  | d :: ds => fun en => match ftg d en with
    | .ok _ en1 => match ft en1 with
      | .ok true en2 => match fe en2 with
        | .ok (.val y _) en3 => match wipeF own en3 with
          | some en4 => match compGo own ftg ft fe ds en4 with
            | .ok ys en5 => .ok (y :: ys) en5
            | _ => .err
          | none => .err
        | _ => .err
      | .ok false en2 => match wipeF own en2 with
        | some en4 => compGo own ftg ft fe ds en4
        | none => .err
      | _ => .err
    | _ => .err
def compIn (own : List Nat) (ftg : D → M Unit) (ft : M Bool) (fe : M RV) (ds : List D) (en : Fr) : Option (List D × Fr) := match wipeF own en with
  | some en1 => if ds.length ≤ most then match compGo own ftg ft fe ds en1 with
      | .ok ys en2 => some (ys, backAt own 0 en en2)
      | _ => none
    else none
  | none => none
def evComp (own : List Nat) (fi : M Src) (ftg : D → M Unit) (ft : M Bool) (fe : M RV) : M RV := fun en => match fi en with
  | .ok (.fz ds) en1 => match compIn own ftg ft fe ds en1 with
    | some (ys, en2) => .ok (.val (.list ys) true) en2
    | none => .err
  | .ok (.lc i ds) en1 => match en1[i]? with
    | some s => match compIn own ftg ft fe ds (en1.set i .lent) with
      | some (ys, en2) => match en2[i]? with
        | some .lent => .ok (.val (.list ys) true) (en2.set i s)
        | _ => .err
      | none => .err
    | none => .err
  | .exc x en1 => .exc x en1
  | .err => .err
def evYes : M Bool := fun en => .ok true en

section
variable {K : PySem.W.Frag} {b : Bs} {oa : Nat → Addr} {σ : St} {H1 : Hp} {en1 : Fr}
theorem wipe_eq : ∀ (own : List Nat) {σ σ2 : St}, σ2.length = σ.length → (∀ j, j ∉ own → σ2[j]? = σ[j]?) → wipe σ2 own = wipe σ own := fun own σ σ2 hl hk => by
  apply List.ext_getElem?
  intro j
  by_cases c : j ∈ own
  · have key : ∀ τ : St, τ.length = σ.length → (wipe τ own)[j]? = if j < σ.length then some none else none := fun τ ht => by
      by_cases hj : j < σ.length
      · rw [if_pos hj]
        cases e : (wipe τ own)[j]? with
        | none =>
          have q := List.getElem?_eq_none_iff.mp e
          rw [wipe_length] at q
          omega
        | some x =>
          cases x with
          | none => rfl
          | some v => exact absurd c (wipe_some e).2
      · rw [if_neg hj]
        exact List.getElem?_eq_none (by rw [wipe_length]; omega)
    rw [key σ2 hl, key σ rfl]
  · rw [wipe_out c, wipe_out c, hk j c]
theorem wiped_un {own : List Nat} {e3 : Fr} (j : Nat) (t : Sl) (c : own.contains j = true) (e : (wipeAt own 0 e3)[j]? = some t) : t = .un := by
  rw [wipeAt_get, Nat.zero_add, if_pos c] at e
  cases e2 : e3[j]? with
  | none => rw [e2] at e; cases e
  | some u => rw [e2] at e; cases e; rfl
theorem wipeF_some {own : List Nat} {e3 e4 : Fr} (h : wipeF own e3 = some e4) : wipeOk own 0 e3 = true ∧ e4 = wipeAt own 0 e3 := by
  unfold wipeF at h
  split at h
  · rename_i c; cases h; exact ⟨c, rfl⟩
  · cases h
theorem comp_core {own sl : List Nat} {Gh : Hp} {J : It} {ds ys : List D} {ftg : D → M Unit} {ft : M Bool} {fe : M RV} {Z : ZT} {en2 : Fr} {Q : VK} (hsl : ∀ j ∈ sl, j ∈ own)
    (hG : ∀ p acc oa' σ' H en, H1 p = none → Sim K (aside b p acc (Frz b H1 en1 oa)) oa' σ' H en → Same Gh H) (w : Walks K J Gh (Frz b H1 en1 oa) ds) (s1 : Sim K b oa σ H1 en1) (h : compIn own ftg ft fe ds en1 = some (ys, en2))
    (q : ∀ v H', Aft K b oa σ H1 en1 v H' (.val (.list ys) true) en2 → Q v H') (p : Addr) (hp : H1 p = none) :
    ∃ W : Nat → Nat → Hp → Prop, (∃ m, W 0 m (upd H1 p (.lst []))) ∧ ∀ i m H, W i m H →
      (J.stop i H ∧ Q (.ref p) H) ∨ (J.go i H ∧ ∃ Nx : Hp → Prop, (∀ H', Nx H' → ∃ m', m' < m ∧ W (i + 1) m' H') ∧ ∀ x H', J.yld i H x H' → tG K sl ftg x (wipe σ own) H' fun σ2 H2 => wipe σ2 own = wipe σ own ∧ tT K Z ft σ2 H2 fun k H3 =>
        if k = true then tE K Z fe σ2 H3 fun y H4 => ∃ acc, H4 p = some (.lst acc) ∧ acc.length < sizeLine ∧ Nx (upd H4 p (.lst (acc ++ [y]))) else Nx H3) := by
  unfold compIn at h
  cases ew : wipeF own en1 with
  | none => rw [ew] at h; cases h
  | some en1' =>
    rw [ew] at h
    simp only at h
    obtain ⟨ok, rfl⟩ := wipeF_some ew
    split at h
    · rename_i hmost
      have hx : ¬ b.xh p := fun z => by
        have e := s1.xl p z
        rw [hp] at e; cases e
      let F := Frz b H1 en1 oa
      let I : Nat → Hp → Prop := fun i H => ∃ en acc zs ys' en', Sim K (aside b p acc F) oa (wipe σ own) H en ∧ DpAll K (Frz (aside b p acc F) H en oa) acc zs ∧ acc.length ≤ i ∧ (∀ j t, own.contains j = true → en[j]? = some t → t = .un) ∧
        compGo own ftg ft fe (ds.drop i) en = .ok ys' en' ∧ ys = zs ++ ys' ∧ en2 = backAt own 0 en1 en'
      cases e0 : compGo own ftg ft fe ds (wipeAt own 0 en1) with
      | err => rw [e0] at h; cases h
      | exc x e => rw [e0] at h; cases h
      | ok ys' en' =>
        rw [e0] at h
        simp only [Option.some.injEq, Prod.mk.injEq] at h
        obtain ⟨h1, h2⟩ := h
        have sw := s1.wiped ok (wipe_length σ own) fun j n => wipe_out n
        have st := sw.1.aside (vs := []) (B := F) hp (by rw [sw.2]; exact Same.refl _)
        refine ⟨fun i m H => m = ds.length - i ∧ i ≤ ds.length ∧ I i H, ⟨ds.length, by simp, Nat.zero_le _, wipeAt own 0 en1, [], [], ys', en', st.1, .nil, Nat.zero_le _, fun j t c e => wiped_un j t c e, e0, h1.symm, h2.symm⟩, ?_⟩
        rintro i m H ⟨rfl, hi, en, acc, zs, ys', en', sim, r, la, hw, hgo, hys, hen⟩
        have sG := hG p acc oa (wipe σ own) H en hp sim
        by_cases hlt : i < ds.length
        · obtain ⟨d, hd⟩ : ∃ d, ds[i]? = some d := ⟨ds[i], List.getElem?_eq_getElem hlt⟩
          have hdr : ds.drop i = d :: ds.drop (i + 1) := by
            rw [List.drop_eq_getElem_cons hlt]
            rw [List.getElem?_eq_getElem hlt] at hd
            cases hd; rfl
          rw [hdr] at hgo
          unfold compGo at hgo
          refine .inr ⟨w.go i H sG hlt, I (i + 1), fun H' n => ⟨ds.length - (i + 1), by omega, rfl, hlt, n⟩, fun x H' y => ?_⟩
          have op := (w.yld i H x H' sG y d hd).up sim.base
          obtain ⟨sA, xA, rA⟩ := (op.aft sim).plain
          refine ⟨aside b p acc F, en, oa, d, sA, rA, ?_⟩
          -- from a state behind the turn to the next one's start
          have next : ∀ {σ2 : St} {H4 : Hp} {e3 e4 : Fr}, wipeF own e3 = some e4 → Sim K (aside b p acc F) oa σ2 H4 e3 → (∀ j, j ∉ own → σ2[j]? = σ[j]?) → σ2.length = σ.length →
              ∃ G, G p = none ∧ H4 = upd G p (.lst acc) ∧ Sim K b oa (wipe σ own) G e4 ∧ Frz b G e4 oa = Frz (aside b p acc F) H4 e3 oa ∧ ∀ j t, own.contains j = true → e4[j]? = some t → t = .un := fun {σ2 H4 e3 e4} ew s4 hk hl => by
            obtain ⟨ok3, rfl⟩ := wipeF_some ew
            obtain ⟨G, gp, rfl, sG', fG⟩ := s4.unaside hx s1.base
            obtain ⟨s5, f5⟩ := sG'.wiped ok3 (σ' := wipe σ own) (by rw [wipe_length, hl]) fun j n => by rw [wipe_out n, hk j n]
            exact ⟨G, gp, rfl, s5, by rw [f5, fG], fun j t c e => wiped_un j t c e⟩
          cases e1 : ftg d en with
          | err => rw [e1] at hgo; cases hgo
          | exc z e => rw [e1] at hgo; cases hgo
          | ok u eB =>
            rw [e1] at hgo
            simp only at hgo
            intro σ2 H2 sB xB kB lB
            have hk2 : ∀ j, j ∉ own → σ2[j]? = σ[j]? := fun j n => by rw [kB j fun z => n (hsl j z), wipe_out n]
            have hl2 : σ2.length = σ.length := by rw [lB, wipe_length]
            refine ⟨wipe_eq own hl2 hk2, aside b p acc F, eB, oa, sB, ?_⟩
            cases e2 : ft eB with
            | err => rw [e2] at hgo; cases hgo
            | exc z e => rw [e2] at hgo; cases hgo
            | ok k eC =>
              rw [e2] at hgo
              intro H3 sC xC
              cases k with
              | false =>
                simp only [Bool.false_eq_true, if_false] at hgo ⊢
                cases e4 : wipeF own eC with
                | none => rw [e4] at hgo; cases hgo
                | some e4' =>
                  rw [e4] at hgo
                  simp only at hgo
                  obtain ⟨G, gp, rfl, s5, f5, hw5⟩ := next e4 sC hk2 hl2
                  have st5 := s5.aside (vs := acc) (B := F) gp (by rw [f5]; exact sC.base)
                  refine ⟨e4', acc, zs, ys', en', st5.1, ?_, Nat.le_succ_of_le la, hw5, hgo, hys, hen⟩
                  rw [st5.2, f5]
                  exact dpAll_mono ((xA.trans xB).trans xC).same r
              | true =>
                simp only [if_true] at hgo ⊢
                refine ⟨aside b p acc F, eC, oa, sC, ?_⟩
                cases e3 : fe eC with
                | err => rw [e3] at hgo; cases hgo
                | exc z e => rw [e3] at hgo; cases hgo
                | ok rv eD =>
                  rw [e3] at hgo
                  cases rv with
                  | loc j => cases hgo
                  | val y fr =>
                    simp only at hgo
                    intro v H4 aD
                    obtain ⟨sD, xD, rD⟩ := aD.plain
                    cases e4 : wipeF own eD with
                    | none => rw [e4] at hgo; cases hgo
                    | some e4' =>
                      rw [e4] at hgo
                      simp only at hgo
                      cases e5 : compGo own ftg ft fe (ds.drop (i + 1)) e4' with
                      | err => rw [e5] at hgo; cases hgo
                      | exc z e => rw [e5] at hgo; cases hgo
                      | ok ys2 en3 =>
                        rw [e5] at hgo
                        cases hgo
                        obtain ⟨G, gp, rfl, s5, f5, hw5⟩ := next e4 sD hk2 hl2
                        have st5 := s5.aside (vs := acc ++ [v]) (B := F) gp (by rw [f5]; exact sD.base)
                        refine ⟨acc, upd_same, most_line (by omega), ?_⟩
                        rw [upd_upd]
                        refine ⟨e4', acc ++ [v], zs ++ [y], ys2, _, st5.1, ?_, by rw [List.length_append]; exact Nat.succ_le_succ la, hw5, e5, by rw [hys, List.append_assoc]; rfl, hen⟩
                        rw [st5.2, f5]
                        exact dpAll_app (dpAll_mono (((xA.trans xB).trans xC).trans xD).same r) (.cons rD .nil)
        · have e : i = ds.length := by omega
          subst e
          rw [List.drop_length] at hgo
          cases hgo
          refine .inl ⟨w.stop _ H sG (Nat.le_refl _), q _ _ ?_⟩
          obtain ⟨G, gp, rfl, sG', fG⟩ := sim.unaside hx s1.base
          have xs : Same (Frz b H1 en1 oa) (Frz b G en oa) := by rw [fG]; exact sim.base
          obtain ⟨s6, f6⟩ := s1.back ok sG' xs hw (fun j n => wipe_out n) (wipe_length σ own)
          rw [hen, hys, List.append_nil]
          refine ⟨G, p, acc, zs, rfl, rfl, gp, rfl, s6, ⟨by rw [f6]; exact xs, fun a z => (s6.xl a z).trans (s1.xl a z).symm⟩, ?_⟩
          rw [f6, fG]; exact r
    · cases h
theorem lc_ok {own sl : List Nat} {fi : M Src} {ftg : D → M Unit} {ft : M Bool} {fe : M RV} {Z Z' : ZT} {H : Hp} {Q : VK} (hsl : ∀ j ∈ sl, j ∈ own) (h : tE K Z (evComp own fi ftg ft fe) σ H Q) : tLc (tI K Z fi) (tG K sl ftg) (tT K Z' ft) (tE K Z' fe) own σ H Q := by
  obtain ⟨b, en, oa, sim, h⟩ := h
  refine ⟨b, en, oa, sim, ?_⟩
  unfold evComp at h
  cases e1 : fi en with
  | err => rw [e1] at h; exact h
  | exc x en1 => rw [e1] at h; exact h
  | ok src en1 =>
    rw [e1] at h
    intro J H1 s1 x1 so p hp
    cases src with
    | fz ds =>
      simp only at h
      cases e2 : compIn own ftg ft fe ds en1 with
      | none => rw [e2] at h; exact h.elim
      | some r =>
        obtain ⟨ys, en2⟩ := r
        rw [e2] at h
        exact comp_core hsl (fun p acc oa' σ' H' en' _ s => s.base.trans hide_same) so s1 e2 (fun v H' a => h v H' (a.from x1)) p hp
    | lc i ds =>
      obtain ⟨vs, hl, hv, r, rfl⟩ := so
      simp only at h
      obtain ⟨s, hs', hs2⟩ : ∃ s, en1[i]? = some s ∧ (s = .own (.list ds) ∨ (s = .mu (.list ds) ∧ b.ma i = oa i)) := by
        rcases locAt_cases hl with e | e
        · exact ⟨_, e, .inl rfl⟩
        · exact ⟨_, e, .inr ⟨rfl, (s1.muA i _ e).symm⟩⟩
      rw [hs'] at h
      simp only at h
      cases e2 : compIn own ftg ft fe ds (en1.set i .lent) with
      | none => rw [e2] at h; exact h.elim
      | some rr =>
        obtain ⟨ys, en2⟩ := rr
        rw [e2] at h
        simp only at h
        obtain ⟨s2, fz⟩ := s1.lend hl hv
        have hx := s1.xo i _ hl
        have w : Walks K (Itl K (oa i)) (upd (Frz b H1 en1 oa) (oa i) (.lst vs)) (Frz (lend b i (oa i) vs (Frz b H1 en1 oa)) H1 (en1.set i .lent) oa) ds := by
          rw [fz]; exact walks_list (.inl (.inl upd_same)) r
        refine comp_core (b := lend b i (oa i) vs (Frz b H1 en1 oa)) hsl (fun p acc oa' σ' H' en' hp' s' a o e => ?_) w s2 e2 (fun v H' a => ?_) p hp
        · by_cases c : a = oa i
          · rw [c, upd_same] at e
            cases e
            have np : oa i ≠ p := ne_of_none hv hp'
            have q := s'.xl (oa i) (.inl (.inr rfl))
            have e' : (aside (lend b i (oa i) vs (Frz b H1 en1 oa)) p acc (Frz (lend b i (oa i) vs (Frz b H1 en1 oa)) H1 (en1.set i .lent) oa)).xc (oa i) = vs := by
              show (if oa i = p then acc else if oa i = oa i then vs else b.xc (oa i)) = vs
              rw [if_neg np, if_pos rfl]
            rw [e'] at q
            rw [c]; exact q
          · rw [upd_ne c] at e
            rw [fz] at s'
            exact (s'.base.trans hide_same) a o e
        · by_cases e3 : en2[i]? = some .lent
          · rw [e3] at h
            simp only at h
            obtain ⟨G, p', vs', ds', e4, e5, gp, e6, sG, xG, rG⟩ := a
            obtain ⟨sU, fU⟩ := to_unlend s1.base r hx hs2 e3 sG
            have eo : (fun j => if j = i then oa i else oa j) = oa := by
              funext j
              by_cases c : j = i
              · rw [if_pos c, c]
              · rw [if_neg c]
            rw [eo] at sU fU
            refine h v H' (Aft.from x1 ⟨G, p', vs', ds', e4, e5, gp, e6, sU, ⟨?_, fun a z => (sU.xl a z).trans (s1.xl a z).symm⟩, ?_⟩)
            · rw [fU, ← fz]; exact xG.same
            · rw [fU]; exact rG
          · split at h
            · rename_i e4
              split at e4
              · rename_i e5; exact absurd e5 e3
              · cases e4
            · rename_i e4
              split at e4
              · cases e4
              · cases e4
            · exact h.elim
end
end Mi
set_option Elab.async false
set_option linter.all false
set_option maxRecDepth 100000
set_option autoImplicit false
/-! MiA: the operators and built-ins on data, each with its rule -/
namespace Mi
open PySem PySem.Spec L2

/-! ### two rules more: a list that is only read + a list; list(text) -/
def rCatS (K : PySem.W.Frag) : R2 := fun x y H Q => ∃ l b xs zs, x = .ref l ∧ y = .ref b ∧ SqL K H l xs ∧ SqL K H b zs ∧ xs.length + zs.length ≤ sizeLine ∧ ∀ p, H p = none → Q (.ref p) (upd H p (.lst (xs ++ zs)))
theorem op_catS {X : Cx} : OpR X (binaryOp .Add) (rCatS X.K) := by
  intro pins s σ H x y v u Q I rx ry h
  obtain ⟨l, b, xs, zs, rfl, rfl, hH, hB, hz, q⟩ := h
  cases rx
  cases ry
  obtain ⟨its, r, ⟨⟨c1, d1, t1, s1⟩, n, e, c, hd, dd⟩, z⟩ := I.list hH
  obtain ⟨its2, r2, ⟨⟨c2, d2, t2, s2⟩, n2, e2, cc, hd2, dd2⟩, z2⟩ := I.list hB
  simp only at c hd dd cc hd2 dd2
  subst c hd dd cc hd2 dd2
  have l1 := r.length
  have l2 := r2.length
  refine PySem.concat_meets ⟨_, e, rfl⟩ ⟨_, e2, rfl⟩ PySem.noFill_list_add PySem.seq_list_add PySem.F.slot_list_add PySem.F.entry_list_add (PySem.F.args_list_add_2 _ _) (PyProof.Rows.list_addW l b its.toArray its2.toArray n n2 none none s1 s2 (by rw [List.size_toArray, List.size_toArray]; omega)) ⟨e, e2, ?_⟩
  have ea : its.toArray ++ its2.toArray = (its ++ its2).toArray := by simp
  rw [ea]
  exact ⟨.ref _, _, I.lnew (t' := s.toks) (r.append r2) (by rw [List.length_append]; omega), rfl, q _ I.fresh⟩
def signV (x : Str) : List V := x.cps.toList.map fun c => .str ⟨#[c]⟩
theorem signs_vals {x : Str} : ∀ {its : List Value}, its.length = x.cps.size → (∀ (i : Nat) (v : Value), its[i]? = some v → SignAt x i v) → Vals (signV x) its := by
  intro its hl h
  have key : ∀ (l : List Nat) (k : Nat) (its : List Value), its.length = l.length → (∀ (i : Nat) (v : Value), its[i]? = some v → ∃ c u, l[i]? = some c ∧ v = .str ⟨#[c]⟩ u) → Vals (l.map fun c => V.str ⟨#[c]⟩) its := by
    intro l
    induction l with
    | nil =>
      intro k its hl _
      cases its with
      | nil => exact .nil
      | cons _ _ => cases hl
    | cons c l ih =>
      intro k its hl h
      cases its with
      | nil => cases hl
      | cons v its =>
        obtain ⟨c', u, e1, e2⟩ := h 0 v rfl
        have e3 : c = c' := by simpa using e1
        subst e3
        exact .cons ⟨u, e2⟩ (ih k its (by simpa using hl) fun i w e => by simpa using h (i + 1) w (by simpa using e))
  refine key x.cps.toList 0 its (by rw [Array.length_toList]; exact hl) fun i v e => ?_
  obtain ⟨c, u, e1, e2⟩ := h i v e
  exact ⟨c, u, by rw [Array.getElem?_toList]; exact e1, e2⟩
theorem call_list_text {X : Cx} (hc : X.calm = true) : CallR X (.type "list") (fun xs H Q => ∃ x : Str, xs = [.str x] ∧ x.cps.size ≤ sizeLine ∧ ∀ p, H p = none → Q (.ref p) (upd H p (.lst (signV x)))) := by
  intro pins s σ H vs us Q I r h
  obtain ⟨x, rfl, hz, q⟩ := h
  cases r with
  | cons r rr =>
    cases rr
    obtain ⟨t, rfl⟩ := r
    refine PySem.call_list_str (I.ok.hd hc) x t (fun h' tk acc' c' hk e hi => ?_) hz
    have hv : Vals (signV x) acc'.toList := signs_vals (by rw [Array.length_toList]; exact hi.1) fun i v e => hi.2 i v (by simpa using e)
    refine ⟨.ref s.heap.objs.size, upd H s.heap.objs.size (.lst (signV x)), I.laid hk (Nat.le_refl _) ⟨?_, acc'.toList, c', hv, by simpa using e⟩, rfl, q _ I.fresh⟩
    unfold signV
    rw [List.length_map, Array.length_toList]; exact hz

/-! ### + - * // % ** -/
def gAdd : G2
  | .int i, .int j => some (.int (i + j), false)
  | .str x, .str y => if x.length + y.length ≤ most then some (.str (x ++ y), false) else none
  | .list xs, .list ys => if xs.length + ys.length ≤ most then some (.list (xs ++ ys), true) else none
  | .tuple xs, .tuple ys => if xs.length + ys.length ≤ most then some (.tuple (xs ++ ys), false) else none
  | _, _ => none
def gSub : G2
  | .int i, .int j => some (.int (i - j), false)
  | _, _ => none
def smallB (i : Int) : Bool := wid 18446744073709551615 i
theorem smallB_iff {i : Int} (h : smallB i = true) : -(2 ^ 64) < i ∧ i < 2 ^ 64 := by
  have := wid_iff.mp h
  omega
def posB : Int → Bool
  | .ofNat 0 => false
  | .ofNat (k + 1) => Nat.blt (k + 1) 18446744073709551616
  | .negSucc _ => false
theorem posB_iff {i : Int} (h : posB i = true) : 0 < i ∧ i < 2 ^ 64 := by
  cases i with
  | negSucc k => cases h
  | ofNat k =>
    cases k with
    | zero => cases h
    | succ k =>
      have h : Nat.blt (k + 1) 18446744073709551616 = true := h
      rw [Nat.blt_eq] at h
      rw [Int.ofNat_eq_natCast]
      omega
def gMul : G2
  | .int i, .int j => if smallB i || smallB j then some (.int (i * j), false) else none
  | .tuple xs, .int k => if xs ≠ [] ∧ 2 ≤ k ∧ k ≤ 1000 ∧ xs.length ≤ 1000 then some (.tuple (List.replicate k.toNat xs).flatten, false) else none
  | _, _ => none
def gDiv : G2
  | .int i, .int j => if posB j = true then some (.int (i / j), false) else none
  | _, _ => none
def gMod : G2
  | .int i, .int j => if 0 < j then some (.int (i % j), false) else none
  | _, _ => none
def gPow : G2
  | .int i, .int j => if 0 ≤ j ∧ j ≤ 1000000 ∧ i.natAbs < 2 ^ 64 then some (.int (i ^ j.toNat), false) else none
  | _, _ => none
def binG : Operator → Option G2
  | .Add => some gAdd
  | .Sub => some gSub
  | .Mult => some gMul
  | .FloorDiv => some gDiv
  | .Mod => some gMod
  | .Pow => some gPow
  | _ => none
theorem most_le {n : Nat} (h : n ≤ most) : n ≤ sizeLine := by rw [sizeLine_eq]; unfold most at h; omega
section
variable {X : Cx} {K : PySem.W.Frag}
theorem top_int {F H : Hp} {v : V} {i : Int} (h : Top K F H v (.int i)) : v = .int i := by
  have q : Dp K F v (.int i) := h
  cases q; rfl
theorem top_str {F H : Hp} {v : V} {x : Str} (h : Top K F H v (.str x)) : v = .str x := by
  have q : Dp K F v (.str x) := h
  cases q; rfl
theorem top_bl {F H : Hp} {v : V} {k : Bool} (h : Top K F H v (.bool k)) : v = .bl k := by
  have q : Dp K F v (.bool k) := h
  cases q; rfl
theorem top_non {F H : Hp} {v : V} (h : Top K F H v .none) : v = .non := by
  have q : Dp K F v .none := h
  cases q; rfl
theorem top_tup {F H : Hp} {v : V} {ds : List D} (s : Same F H) (h : Top K F H v (.tuple ds)) : ∃ a vs, v = .ref a ∧ SqT K F a vs ∧ SqT K H a vs ∧ DpAll K F vs ds := by
  have q : Dp K F v (.tuple ds) := h
  cases q with
  | tup q r => exact ⟨_, _, rfl, q, sqT_mono s q, r⟩
theorem op2_intI {C : Int → Int → Prop} {f : Int → Int → V} {g : G2} (h : ∀ d1 d2 d fr, g d1 d2 = some (d, fr) → ∃ i j, d1 = .int i ∧ d2 = .int j ∧ C i j ∧ fr = false ∧ ∀ F, Dp K F (f i j) d) : Op2 K (rI C f) g := by
  intro F H v1 v2 d1 d2 d fr Q s t1 t2 e q
  obtain ⟨i, j, rfl, rfl, c, rfl, r⟩ := h d1 d2 d fr e
  exact ⟨i, j, top_int t1, top_int t2, c, q _ _ (OpAft.scal (r F))⟩
theorem op2_add : Op2 X.K (fun x y H Q => rI0 (fun i j => .int (i + j)) x y H Q ∨ (∃ i j, x = .str i ∧ y = .str j ∧ i.length + j.length ≤ sizeLine ∧ Q (.str (i ++ j)) H) ∨ rCatS X.K x y H Q ∨ rCatA X.K x y H Q) gAdd := by
  intro F H v1 v2 d1 d2 d fr Q s t1 t2 e q
  unfold gAdd at e
  split at e
  · cases e
    exact .inl ⟨_, _, top_int t1, top_int t2, q _ _ (OpAft.scal (.int _))⟩
  · split at e
    · rename_i c
      cases e
      exact .inr (.inl ⟨_, _, top_str t1, top_str t2, most_le c, q _ _ (OpAft.scal (.str _))⟩)
    · cases e
  · split at e
    · rename_i c
      cases e
      obtain ⟨a, vs, rfl, q1, r1⟩ := t1
      obtain ⟨a2, vs2, rfl, q2, r2⟩ := t2
      exact .inr (.inr (.inl ⟨a, a2, vs, vs2, rfl, rfl, q1, q2, by rw [dpAll_len r1, dpAll_len r2]; exact most_le c, fun p hp => q _ _ (OpAft.lst hp (dpAll_app r1 r2))⟩))
    · cases e
  · split at e
    · rename_i c
      cases e
      obtain ⟨a, vs, rfl, q1, p1, r1⟩ := top_tup s t1
      obtain ⟨a2, vs2, rfl, q2, p2, r2⟩ := top_tup s t2
      refine .inr (.inr (.inr ⟨a, a2, vs, vs2, rfl, rfl, p1, p2, by rw [dpAll_len r1, dpAll_len r2]; exact most_le c, fun z => ?_, fun _ z => ?_, fun _ _ p hp => q _ _ (OpAft.tup hp (dpAll_app r1 r2))⟩))
      · subst z
        cases r1
        exact q _ _ (OpAft.scal (.tup q2 r2))
      · subst z
        cases r2
        rw [List.append_nil] at q
        exact q _ _ (OpAft.scal (.tup q1 r1))
    · cases e
  · cases e
theorem opr_add : OpR X (binaryOp .Add) (fun x y H Q => rI0 (fun i j => .int (i + j)) x y H Q ∨ (∃ i j, x = .str i ∧ y = .str j ∧ i.length + j.length ≤ sizeLine ∧ Q (.str (i ++ j)) H) ∨ rCatS X.K x y H Q ∨ rCatA X.K x y H Q) :=
  op_add.or (op_add_str.or (op_catS.or op_catA))
theorem op2_sub : Op2 X.K (rI0 fun i j => .int (i - j)) gSub := by
  intro F H v1 v2 d1 d2 d fr Q s t1 t2 e q
  unfold gSub at e
  split at e
  · cases e
    exact ⟨_, _, top_int t1, top_int t2, q _ _ (OpAft.scal (.int _))⟩
  · cases e
theorem op2_mul : Op2 X.K (fun x y H Q => rI CMul (fun i j => .int (i * j)) x y H Q ∨ rRepT X.K x y H Q) gMul := by
  intro F H v1 v2 d1 d2 d fr Q s t1 t2 e q
  unfold gMul at e
  split at e
  · split at e
    · rename_i c
      cases e
      refine .inl ⟨_, _, top_int t1, top_int t2, ?_, q _ _ (OpAft.scal (.int _))⟩
      rw [Bool.or_eq_true] at c
      exact c.imp smallB_iff smallB_iff
    · cases e
  · split at e
    · rename_i c
      cases e
      obtain ⟨a, vs, rfl, q1, p1, r1⟩ := top_tup s t1
      have hl := dpAll_len r1
      have rep : ∀ (n : Nat) {vs : List V} {ds : List D}, DpAll X.K F vs ds → DpAll X.K F (List.replicate n vs).flatten (List.replicate n ds).flatten := fun n {vs ds} r => by
        induction n with
        | zero => exact .nil
        | succ n ih => rw [List.replicate_succ, List.replicate_succ, List.flatten_cons, List.flatten_cons]; exact dpAll_app r ih
      refine .inr ⟨a, _, vs, rfl, top_int t2, p1, fun z => ?_, c.2.1, c.2.2.1, by omega, fun p hp => q _ _ (OpAft.tup hp (rep _ r1))⟩
      subst z
      cases r1
      exact c.1 rfl
    · cases e
  · cases e
theorem opr_mul : OpR X (binaryOp .Mult) (fun x y H Q => rI CMul (fun i j => .int (i * j)) x y H Q ∨ rRepT X.K x y H Q) := op_mul.or op_repT
theorem op2_div : Op2 X.K (rI CDivW fun i j => .int (i / j)) gDiv := op2_intI fun d1 d2 d fr e => by
  unfold gDiv at e
  split at e
  · rename_i i j
    split at e
    · rename_i c
      cases e
      exact ⟨_, _, rfl, rfl, wide_div (b := 64) (posB_iff c).1 (by have := (posB_iff c).1; have := (posB_iff c).2; omega) (by decide) (by decide), rfl, fun _ => .int _⟩
    · cases e
  · cases e
theorem op2_mod : Op2 X.K (rI (fun _ j => 0 < j) fun i j => .int (i % j)) gMod := op2_intI fun d1 d2 d fr e => by
  unfold gMod at e
  split at e
  · split at e
    · rename_i c
      cases e
      exact ⟨_, _, rfl, rfl, c, rfl, fun _ => .int _⟩
    · cases e
  · cases e
theorem op2_pow : Op2 X.K (rI CPow fun i j => .int (i ^ j.toNat)) gPow := op2_intI fun d1 d2 d fr e => by
  unfold gPow at e
  split at e
  · split at e
    · rename_i c
      cases e
      exact ⟨_, _, rfl, rfl, c, rfl, fun _ => .int _⟩
    · cases e
  · cases e
theorem me_binop {Z : ZT} {fa fb : M RV} {a c : Expr} {op : Operator} {pos : Pos} {g : G2} (hg : binG op = some g) (ha : PE X a (tE X.K Z fa)) (hb : PE X c (tE X.K Z fb)) : PE X (.BinOp a op c pos) (tE X.K Z (evBin g fa fb)) := by
  cases op <;> first | (cases hg; done) | skip
  · cases hg; exact me_bin opr_add op2_add ha hb
  · cases hg; exact me_bin op_sub op2_sub ha hb
  · cases hg; exact me_bin opr_mul op2_mul ha hb
  · cases hg; exact me_bin op_mod op2_mod ha hb
  · cases hg; exact me_bin op_pow op2_pow ha hb
  · cases hg; exact me_bin op_fdivW op2_div ha hb

/-! ### comparisons -/
def scalD : D → D → Bool
  | .none, .none | .none, .int _ | .int _, .none | .none, .bool _ | .bool _, .none | .none, .str _ | .str _, .none => true
  | .int _, .int _ | .bool _, .bool _ | .str _, .str _ => true
  | .int _, .str _ | .str _, .int _ | .bool _, .str _ | .str _, .bool _ => true
  | _, _ => false
/-- d == e, for data; of scalars at once -/
def eqB (d e : D) : Option Bool := if scalD d e || (SeqAt.shaped d && SeqAt.shaped e) then some (PyData.eqv d e) else none
def gEq : G2 := fun d e => (eqB d e).map fun k => (.bool k, false)
def gNe : G2 := fun d e => (eqB d e).map fun k => (.bool (!k), false)
def flatD : D → Bool
  | .none | .bool _ | .int _ | .str _ => true
  | _ => false
def inSeq (d : D) (ds : List D) : Option Bool := if (flatD d && ds.all flatD) || (SeqAt.shaped d && SeqAt.shaped (.list ds)) then some (ds.any fun z => PyData.eqv z d) else none
def inB : D → D → Option Bool
  | .str c, .str z => match c.cps.toList with
    | [k] => some (decide (k ∈ z.cps.toList))
    | _ => none
  | d, .list ds => inSeq d ds
  | d, .tuple ds => if flatD d && ds.all flatD then some (ds.any fun z => PyData.eqv z d) else none
  | _, _ => none
def gIn : G2 := fun d e => (inB d e).map fun k => (.bool k, false)
def gNotIn : G2 := fun d e => (inB d e).map fun k => (.bool (!k), false)
def isNon : D → Bool
  | .none => true
  | _ => false
def gIs : G2 := fun d e => if isNon e then some (.bool (isNon d), false) else none
def gIsNot : G2 := fun d e => if isNon e then some (.bool (!isNon d), false) else none
def gCmpI (p : Int → Int → Bool) : G2
  | .int i, .int j => some (.bool (p i j), false)
  | _, _ => none
def cmpG : CmpOp → G2
  | .Eq => gEq
  | .NotEq => gNe
  | .Lt => gCmpI fun i j => decide (i < j)
  | .LtE => gCmpI fun i j => decide (i ≤ j)
  | .Gt => gCmpI fun i j => decide (j < i)
  | .GtE => gCmpI fun i j => decide (j ≤ i)
  | .Is => gIs
  | .IsNot => gIsNot
  | .In => gIn
  | .NotIn => gNotIn
theorem scal_dp {F : Hp} {v1 v2 : V} {d e : D} (h : scalD d e = true) (r1 : Dp K F v1 d) (r2 : Dp K F v2 e) : scal v1 v2 = true ∧ decide (v1 = v2) = PyData.eqv d e := by
  cases r1 <;> cases r2 <;> first | (cases h; done) | skip
  all_goals first
    | exact ⟨rfl, rfl⟩
    | (refine ⟨rfl, ?_⟩; unfold PyData.eqv; first | rfl | (rw [Bool.eq_iff_iff]; simp))
theorem eqB_cases {F H : Hp} {v1 v2 : V} {d1 d2 : D} {k : Bool} (s : Same F H) (t1 : Top X.K F H v1 d1) (t2 : Top X.K F H v2 d2) (e : eqB d1 d2 = some k) :
    (scal v1 v2 = true ∧ decide (v1 = v2) = k) ∨ ∃ d e, Dp X.K H v1 d ∧ Dp X.K H v2 e ∧ SeqAt.shaped d = true ∧ SeqAt.shaped e = true ∧ PyData.eqv d e = k := by
  unfold eqB at e
  split at e
  · rename_i c
    cases e
    rw [Bool.or_eq_true] at c
    have r1 := t1.dp s
    have r2 := t2.dp s
    by_cases h : scalD d1 d2 = true
    · exact .inl (scal_dp h r1 r2)
    · have c := c.resolve_left h
      rw [Bool.and_eq_true] at c
      exact .inr ⟨_, _, r1, r2, c.1, c.2, rfl⟩
  · cases e
theorem op2_eq : Op2 X.K (fun x y H Q => rEq x y H Q ∨ rEqD X.K x y H Q) gEq := by
  intro F H v1 v2 d1 d2 d fr Q s t1 t2 e q
  unfold gEq at e
  cases e1 : eqB d1 d2 with
  | none => rw [e1] at e; cases e
  | some k =>
    rw [e1] at e
    cases e
    have q' := q _ _ (OpAft.scal (.bl k))
    rcases eqB_cases s t1 t2 e1 with ⟨h1, h2⟩ | ⟨d, e, r1, r2, s1, s2, h⟩
    · exact .inl ⟨h1, by rw [h2]; exact q'⟩
    · exact .inr ⟨d, e, r1, r2, s1, s2, by rw [h]; exact q'⟩
theorem op2_ne : Op2 X.K (fun x y H Q => rNe x y H Q ∨ rNeD X.K x y H Q) gNe := by
  intro F H v1 v2 d1 d2 d fr Q s t1 t2 e q
  unfold gNe at e
  cases e1 : eqB d1 d2 with
  | none => rw [e1] at e; cases e
  | some k =>
    rw [e1] at e
    cases e
    have q' := q _ _ (OpAft.scal (.bl (!k)))
    rcases eqB_cases s t1 t2 e1 with ⟨h1, h2⟩ | ⟨d, e, r1, r2, s1, s2, h⟩
    · exact .inl ⟨h1, by rw [h2]; exact q'⟩
    · exact .inr ⟨d, e, r1, r2, s1, s2, by rw [h]; exact q'⟩
theorem op2_is : Op2 X.K (fun x y H Q => y = .non ∧ Q (.bl (decide (x = .non))) H) gIs := by
  intro F H v1 v2 d1 d2 d fr Q s t1 t2 e q
  unfold gIs at e
  split at e
  · rename_i c
    cases e
    have e2 : d2 = .none := by cases d2 <;> first | rfl | cases c
    subst e2
    have r1 := t1.dp s
    have key : decide (v1 = .non) = isNon d1 := by cases r1 <;> rfl
    exact ⟨top_non t2, by rw [key]; exact q _ _ (OpAft.scal (.bl _))⟩
  · cases e
theorem op2_isnot : Op2 X.K (fun x y H Q => y = .non ∧ Q (.bl (!decide (x = .non))) H) gIsNot := by
  intro F H v1 v2 d1 d2 d fr Q s t1 t2 e q
  unfold gIsNot at e
  split at e
  · rename_i c
    cases e
    have e2 : d2 = .none := by cases d2 <;> first | rfl | cases c
    subst e2
    have r1 := t1.dp s
    have key : decide (v1 = .non) = isNon d1 := by cases r1 <;> rfl
    exact ⟨top_non t2, by rw [key]; exact q _ _ (OpAft.scal (.bl _))⟩
  · cases e
theorem op2_cmpI {p : Int → Int → Bool} : Op2 X.K (rI0 fun i j => .bl (p i j)) (gCmpI p) := by
  intro F H v1 v2 d1 d2 d fr Q s t1 t2 e q
  unfold gCmpI at e
  split at e
  · cases e
    exact ⟨_, _, top_int t1, top_int t2, q _ _ (OpAft.scal (.bl _))⟩
  · cases e
theorem flat_dp {F : Hp} {v : V} {d : D} (h : flatD d = true) (r : Dp K F v d) : flatV v = true := by
  cases r <;> first | rfl | cases h
theorem flat_all {F : Hp} : ∀ {vs : List V} {ds : List D}, ds.all flatD = true → DpAll K F vs ds → vs.all flatV = true
  | _, _, _, .nil => rfl
  | _, _, h, .cons q r => by
    rw [List.all_cons, Bool.and_eq_true] at h ⊢
    exact ⟨flat_dp h.1 q, flat_all h.2 r⟩
theorem eqV_dp {F : Hp} {v1 v2 : V} {d e : D} (h1 : flatD d = true) (h2 : flatD e = true) (r1 : Dp K F v1 d) (r2 : Dp K F v2 e) : eqV v1 v2 = PyData.eqv d e := by
  cases r1 <;> cases r2 <;> first | (cases h1; done) | (cases h2; done) | skip
  all_goals (unfold PyData.eqv; rfl)
theorem inV_dp {F : Hp} {v : V} {d : D} (h1 : flatD d = true) (r1 : Dp K F v d) : ∀ {vs : List V} {ds : List D}, ds.all flatD = true → DpAll K F vs ds → inV v vs = ds.any fun z => PyData.eqv z d
  | _, _, _, .nil => rfl
  | _, _, h, .cons q r => by
    rw [List.all_cons, Bool.and_eq_true] at h
    unfold inV
    rw [List.any_cons, List.any_cons, eqV_dp h.1 h1 q r1]
    have ih := inV_dp h1 r1 h.2 r
    unfold inV at ih
    rw [ih]
/-- the four roads of in -/
def rInA (K : PySem.W.Frag) (neg : Bool) : R2 := fun x y H Q => (∃ (c : Nat) (z : Str), x = .str ⟨#[c]⟩ ∧ y = .str z ∧ Q (.bl (if neg then !decide (c ∈ z.cps.toList) else decide (c ∈ z.cps.toList))) H) ∨ rIn K neg x y H Q ∨
  ∃ d ds, Dp K H x d ∧ Dp K H y (.list ds) ∧ SeqAt.shaped d = true ∧ SeqAt.shaped (.list ds) = true ∧ Q (.bl (if neg then !ds.any fun z => PyData.eqv z d else ds.any fun z => PyData.eqv z d)) H
theorem in_cases {F H : Hp} {v1 v2 : V} {d1 d2 : D} {k : Bool} {neg : Bool} {Q : VK} (s : Same F H) (t1 : Top X.K F H v1 d1) (t2 : Top X.K F H v2 d2) (e : inB d1 d2 = some k) (q : Q (.bl (if neg then !k else k)) H) : rInA X.K neg v1 v2 H Q := by
  have seq : ∀ {ds : List D}, inSeq d1 ds = some k → d2 = .list ds → rInA X.K neg v1 v2 H Q := fun {ds} e0 h => by
    clear e
    subst h
    unfold inSeq at e0
    split at e0
    · rename_i c
      cases e0
      have r1 := t1.dp s
      have r2 := t2.dp s
      by_cases h : (flatD d1 && ds.all flatD) = true
      · rw [Bool.and_eq_true] at h
        cases r2 with
        | lst q2 r2 =>
          refine .inr (.inl ⟨_, _, rfl, .inl q2, flat_dp h.1 r1, flat_all h.2 r2, ?_⟩)
          rw [inV_dp h.1 r1 h.2 r2]
          exact q
      · rw [Bool.or_eq_true] at c
        have c := c.resolve_left h
        rw [Bool.and_eq_true] at c
        exact .inr (.inr ⟨_, _, r1, r2, c.1, c.2, q⟩)
    · cases e0
  have sign : ∀ {c z : Str}, (match c.cps.toList with
    | [k] => some (decide (k ∈ z.cps.toList))
    | _ => none) = some k → d1 = .str c → d2 = .str z → rInA X.K neg v1 v2 H Q := fun {c z} e0 h1 h2 => by
    clear e seq
    subst h1 h2
    split at e0
    · rename_i n hn
      cases e0
      have hc : c = ⟨#[n]⟩ := by
        cases c with
        | mk a =>
          have : a = #[n] := by
            apply Array.toList_inj.mp
            exact hn
          rw [this]
      rw [hc] at t1
      exact .inl ⟨n, z, top_str t1, top_str t2, q⟩
    · cases e0
  unfold inB at e
  split at e
  · exact sign e rfl rfl
  · exact seq e rfl
  · rename_i ds
    split at e
    · rename_i c
      cases e
      rw [Bool.and_eq_true] at c
      have r1 := t1.dp s
      obtain ⟨a, vs, rfl, q1, p1, r2⟩ := top_tup s t2
      have r2' := dpAll_mono s r2
      refine .inr (.inl ⟨a, vs, rfl, .inr p1, flat_dp c.1 r1, flat_all c.2 r2', ?_⟩)
      rw [inV_dp c.1 r1 c.2 r2']
      exact q
    · cases e
  · cases e
theorem opr_in (hu : X.A.units + 65 < cLine) : OpR X (compareOp .In) (rInA X.K false) := fun pins s σ H x y v u Q I r1 r2 h => by
  rcases h with h | h | h
  · exact op_in_sign pins s σ H x y v u Q I r1 r2 h
  · exact op_in_seq pins s σ H x y v u Q I r1 r2 h
  · exact op_inD hu pins s σ H x y v u Q I r1 r2 h
theorem opr_notIn (hu : X.A.units + 65 < cLine) : OpR X (compareOp .NotIn) (rInA X.K true) := fun pins s σ H x y v u Q I r1 r2 h => by
  rcases h with h | h | h
  · exact op_notIn_sign pins s σ H x y v u Q I r1 r2 h
  · exact op_notIn_seq pins s σ H x y v u Q I r1 r2 h
  · exact op_notInD hu pins s σ H x y v u Q I r1 r2 h
theorem op2_in : Op2 X.K (rInA X.K false) gIn := by
  intro F H v1 v2 d1 d2 d fr Q s t1 t2 e q
  unfold gIn at e
  cases e1 : inB d1 d2 with
  | none => rw [e1] at e; cases e
  | some k =>
    rw [e1] at e
    cases e
    exact in_cases s t1 t2 e1 (q _ _ (OpAft.scal (.bl k)))
theorem op2_notIn : Op2 X.K (rInA X.K true) gNotIn := by
  intro F H v1 v2 d1 d2 d fr Q s t1 t2 e q
  unfold gNotIn at e
  cases e1 : inB d1 d2 with
  | none => rw [e1] at e; cases e
  | some k =>
    rw [e1] at e
    cases e
    exact in_cases s t1 t2 e1 (q _ _ (OpAft.scal (.bl (!k))))
/-- any comparison -/
theorem cmp_ok (hu : X.A.units + 65 < cLine) (op : CmpOp) : ∃ r : R2, OpR X (compareOp op) r ∧ Op2 X.K r (cmpG op) := by
  cases op with
  | Eq => exact ⟨_, op_eq.or (op_eqD (by omega)), op2_eq⟩
  | NotEq => exact ⟨_, op_ne.or (op_neD (by omega)), op2_ne⟩
  | Lt => exact ⟨_, op_lt, op2_cmpI⟩
  | LtE => exact ⟨_, op_le, op2_cmpI⟩
  | Gt => exact ⟨_, op_gt, op2_cmpI⟩
  | GtE => exact ⟨_, op_ge, op2_cmpI⟩
  | Is => exact ⟨_, op_isN, op2_is⟩
  | IsNot => exact ⟨_, op_notN, op2_isnot⟩
  | In => exact ⟨_, opr_in hu, op2_in⟩
  | NotIn => exact ⟨_, opr_notIn hu, op2_notIn⟩
end
end Mi
set_option Elab.async false
set_option linter.all false
set_option maxRecDepth 100000
set_option autoImplicit false
/-! MiB: items, slices, built-in functions, methods, isinstance, f-strings -/
namespace Mi
open PySem PySem.Spec L2

/-! ### items and slices -/
def gIdx : G2
  | .list ds, .int i => (atI ds i).map fun d => (d, false)
  | .tuple ds, .int i => (atI ds i).map fun d => (d, false)
  | .str z, .int i => if z.length ≤ most then (atI z.cps.toList i).map fun c => (.str ⟨#[c]⟩, false) else none
  | _, _ => none
def cutD (xs : List D) (lo hi : Option Int) : List D := (xs.drop (HT.sIx xs.length 0 lo)).take (HT.sIx xs.length xs.length hi - HT.sIx xs.length 0 lo)
def gSl : GS := fun d lo hi => match d with
  | .list ds => some (.list (cutD ds lo hi), true)
  | .tuple ds => some (.tuple (cutD ds lo hi), false)
  | .str z => if z.length ≤ most then some (.str (cutS z lo hi), false) else none
  | _ => none
section
variable {X : Cx} {K : PySem.W.Frag}
theorem atI_dp {F : Hp} {vs : List V} {ds : List D} {i : Int} {d : D} (r : DpAll K F vs ds) (h : atI ds i = some d) : ∃ v, atI vs i = some v ∧ Dp K F v d := by
  unfold atI at h ⊢
  rw [dpAll_len r]
  cases e : ixN ds.length i with
  | none => rw [e] at h; cases h
  | some j =>
    rw [e] at h
    exact dpAll_get r h
theorem op2_idx : Op2 X.K (rIx X.K) gIdx := by
  intro F H v1 v2 d1 d2 d fr Q s t1 t2 e q
  unfold gIdx at e
  split at e
  · rename_i ds i
    cases e1 : atI ds i with
    | none => rw [e1] at e; cases e
    | some x =>
      rw [e1] at e
      cases e
      obtain ⟨a, vs, rfl, q1, r1⟩ := t1
      obtain ⟨v, e2, r2⟩ := atI_dp r1 e1
      exact .inl ⟨a, vs, i, v, rfl, top_int t2, q1, e2, q _ _ (OpAft.scal r2)⟩
  · rename_i ds i
    cases e1 : atI ds i with
    | none => rw [e1] at e; cases e
    | some x =>
      rw [e1] at e
      cases e
      obtain ⟨a, vs, rfl, q1, p1, r1⟩ := top_tup s t1
      obtain ⟨v, e2, r2⟩ := atI_dp r1 e1
      exact .inr (.inl ⟨a, vs, i, v, rfl, top_int t2, p1, e2, q _ _ (OpAft.scal r2)⟩)
  · rename_i z i
    split at e
    · rename_i c
      cases e1 : atI z.cps.toList i with
      | none => rw [e1] at e; cases e
      | some x =>
        rw [e1] at e
        cases e
        exact .inr (.inr ⟨z, i, x, top_str t1, top_int t2, most_le c, e1, q _ _ (OpAft.scal (.str _))⟩)
    · cases e
  · cases e
theorem cut_dp {F : Hp} {vs : List V} {ds : List D} {lo hi : Option Int} (r : DpAll K F vs ds) : DpAll K F (cutV vs lo hi) (cutD ds lo hi) := by
  unfold cutV cutD
  rw [dpAll_len r]
  exact dpAll_take _ (dpAll_drop _ r)
theorem opS_sl : OpS X.K (fun x lo hi H Q => rSlL X.K x lo hi H Q ∨ rSlA X.K x lo hi H Q ∨ rSlS x lo hi H Q) gSl := by
  intro F H v1 d1 d lo hi fr Q s t1 e q
  unfold gSl at e
  split at e
  · cases e
    obtain ⟨a, vs, rfl, q1, r1⟩ := t1
    exact .inl ⟨a, vs, rfl, q1, fun p hp => q _ _ (OpAft.lst hp (cut_dp r1))⟩
  · cases e
    rename_i ds
    obtain ⟨a, vs, rfl, q1, p1, r1⟩ := top_tup s t1
    refine .inr (.inl ⟨a, vs, rfl, p1, fun h => ?_, fun _ p hp => q _ _ (OpAft.tup hp (cut_dp r1))⟩)
    have hl := dpAll_len r1
    have e1 : cutD ds lo hi = ds := by
      unfold cutD
      rw [← hl, h.1, h.2, List.drop_zero, Nat.sub_zero, hl, List.take_length]
    rw [e1] at q
    exact q _ _ (OpAft.scal (.tup q1 r1))
  · rename_i z
    split at e
    · rename_i c
      cases e
      exact .inr (.inr ⟨z, top_str t1, most_le c, q _ _ (OpAft.scal (.str _))⟩)
    · cases e
  · cases e
theorem slr_sl : SlR X (fun x lo hi H Q => rSlL X.K x lo hi H Q ∨ rSlA X.K x lo hi H Q ∨ rSlS x lo hi H Q) := sl_list.or (sl_tupA.or sl_str)
end

/-! ### built-in functions -/
inductive Bi where
  | len | int | str | list | tuple | max2 | min2 | abs | sum | all | any | sorted
  deriving DecidableEq
def intsOf : List D → Option (List Int)
  | [] => some []
  | .int i :: r => (intsOf r).map fun is => i :: is
  | _ => none
def boolsOf : List D → Option (List Bool)
  | [] => some []
  | .bool i :: r => (boolsOf r).map fun is => i :: is
  | _ => none
def insI (x : Int) : List Int → List Int
  | [] => [x]
  | y :: r => if x ≤ y then x :: y :: r else y :: insI x r
def sortI : List Int → List Int
  | [] => []
  | x :: r => insI x (sortI r)
def lenD : D → Option Nat
  | .list ds => some ds.length
  | .tuple ds => some ds.length
  | .str z => if z.length ≤ most then some z.length else none
  | _ => none
def strI (i : Int) : Str := Str.ofString (toString i)
def biG : Bi → GN
  | .len => fun ds => match ds with
    | [d] => (lenD d).map fun n => (.int n, false)
    | _ => none
  | .int => fun ds => match ds with
    | [.int i] => some (.int i, false)
    | [.bool k] => some (.int (if k then 1 else 0), false)
    | _ => none
  | .str => fun ds => match ds with
    | [.int i] => if i.natAbs < 2 ^ 64 then some (.str (strI i), false) else none
    | [.str x] => some (.str x, false)
    | _ => none
  | .list => fun ds => match ds with
    | [.list xs] => some (.list xs, true)
    | [.tuple xs] => some (.list xs, true)
    | [.str x] => if x.length ≤ most then some (.list (signs x), true) else none
    | _ => none
  | .tuple => fun ds => match ds with
    | [.list xs] => some (.tuple xs, false)
    | [.tuple xs] => some (.tuple xs, false)
    | _ => none
  | .max2 => fun ds => match ds with
    | [.int i, .int j] => some (.int (if j > i then j else i), false)
    | _ => none
  | .min2 => fun ds => match ds with
    | [.int i, .int j] => some (.int (if j < i then j else i), false)
    | _ => none
  | .abs => fun ds => match ds with
    | [.int i] => some (.int (if i < 0 then -i else i), false)
    | _ => none
  | .sum => fun ds => match ds with
    | [.list xs] => (intsOf xs).map fun is => (.int is.sum, false)
    | _ => none
  | .all => fun ds => match ds with
    | [.list xs] => (boolsOf xs).map fun is => (.bool (is.all id), false)
    | _ => none
  | .any => fun ds => match ds with
    | [.list xs] => (boolsOf xs).map fun is => (.bool (is.any id), false)
    | _ => none
  | .sorted => fun ds => match ds with
    | [.list xs] => if xs.length < 64 then (intsOf xs).map fun is => (.list ((sortI is).map .int), true) else none
    | _ => none
def biName : Bi → Str
  | .len => "len" | .int => "int" | .str => "str" | .list => "list" | .tuple => "tuple" | .max2 => "max" | .min2 => "min" | .abs => "abs" | .sum => "sum" | .all => "all" | .any => "any" | .sorted => "sorted"
def biVal : Bi → Value
  | .len => .builtin "len" | .int => .type "int" | .str => .type "str" | .list => .type "list" | .tuple => .type "tuple" | .max2 => .builtin "max" | .min2 => .builtin "min" | .abs => .builtin "abs" | .sum => .builtin "sum" | .all => .builtin "all" | .any => .builtin "any" | .sorted => .builtin "sorted"
theorem biBoot : ∀ f, bootBuiltins (biName f) = some (biVal f) := by intro f; cases f <;> decide +kernel
theorem biNm : ∀ f, biName f ≠ "__name__" ∧ (biName f == ("__debug__" : Str)) = false := by intro f; cases f <;> decide +kernel
section
variable {X : Cx} {K : PySem.W.Frag}
theorem ints_dp {F : Hp} : ∀ {vs : List V} {ds : List D} {is : List Int}, intsOf ds = some is → DpAll K F vs ds → vs = is.map V.int
  | _, _, is, h, .nil => by cases h; rfl
  | _, _, is, h, .cons q r => by
    cases q with
    | int i =>
      unfold intsOf at h
      obtain ⟨js, e, rfl⟩ := Option.map_eq_some_iff.mp h
      rw [ints_dp e r]; rfl
    | _ => cases h
theorem bools_dp {F : Hp} : ∀ {vs : List V} {ds : List D} {is : List Bool}, boolsOf ds = some is → DpAll K F vs ds → vs = is.map V.bl
  | _, _, is, h, .nil => by cases h; rfl
  | _, _, is, h, .cons q r => by
    cases q with
    | bl i =>
      unfold boolsOf at h
      obtain ⟨js, e, rfl⟩ := Option.map_eq_some_iff.mp h
      rw [bools_dp e r]; rfl
    | _ => cases h
theorem dp_ints {F : Hp} : ∀ (is : List Int), DpAll K F (is.map V.int) (is.map PyData.int)
  | [] => .nil
  | i :: r => .cons (.int i) (dp_ints r)
theorem insI_perm (x : Int) : ∀ l : List Int, (insI x l).Perm (x :: l)
  | [] => .refl _
  | y :: r => by
    unfold insI
    split
    · exact .refl _
    · exact ((insI_perm x r).cons y).trans (.swap x y r)
theorem sortI_perm : ∀ l : List Int, (sortI l).Perm l
  | [] => .refl _
  | x :: r => (insI_perm x (sortI r)).trans ((sortI_perm r).cons x)
theorem insI_sorted (x : Int) : ∀ {l : List Int}, l.Pairwise (· ≤ ·) → (insI x l).Pairwise (· ≤ ·)
  | [], _ => by unfold insI; exact List.pairwise_singleton _ _
  | y :: r, h => by
    unfold insI
    have h' := List.pairwise_cons.mp h
    split
    · rename_i c
      refine List.pairwise_cons.mpr ⟨fun z hz => ?_, h⟩
      rcases List.mem_cons.mp hz with rfl | hz
      · exact c
      · exact Int.le_trans c (h'.1 z hz)
    · rename_i c
      refine List.pairwise_cons.mpr ⟨fun z hz => ?_, insI_sorted x h'.2⟩
      have hz' := (insI_perm x r).mem_iff.mp hz
      rcases List.mem_cons.mp hz' with rfl | hz'
      · omega
      · exact h'.1 z hz'
theorem sortI_sorted : ∀ l : List Int, (sortI l).Pairwise (· ≤ ·)
  | [] => .nil
  | x :: r => insI_sorted x (sortI_sorted r)
theorem sorted_uniq {l m : List Int} (p : l.Perm m) (hl : l.Pairwise (· ≤ ·)) (hm : m.Pairwise (· ≤ ·)) : l = m :=
  p.eq_of_pairwise (fun a b _ _ h1 h2 => Int.le_antisymm h1 h2) hl hm
theorem top1 {F H : Hp} {vs : List V} {d : D} (t : TopAll K F H vs [d]) : ∃ v, vs = [v] ∧ Top K F H v d := by
  cases t with
  | cons h r => cases r; exact ⟨_, rfl, h⟩
theorem top2 {F H : Hp} {vs : List V} {d e : D} (t : TopAll K F H vs [d, e]) : ∃ v w, vs = [v, w] ∧ Top K F H v d ∧ Top K F H w e := by
  cases t with
  | cons h r =>
    cases r with
    | cons h2 r => cases r; exact ⟨_, _, rfl, h, h2⟩
theorem signs_dp {F : Hp} {x : Str} : DpAll K F (signV x) (signs x) := by
  unfold signV signs
  generalize x.cps.toList = l
  induction l with
  | nil => exact .nil
  | cons c l ih => exact .cons (.str _) ih
/-- each built-in function, called -/
def BiOk (X : Cx) (f : Bi) : Prop := ∃ r, CallR X (biVal f) r ∧ OpN X.K r (biG f)
theorem bi_ok (hc : X.calm = true) : ∀ f, BiOk X f := by
  intro f
  cases f with
  | len =>
    refine ⟨_, call_len, fun F H vs ds d fr Q s tt e q => ?_⟩
    unfold biG at e
    simp only at e
    split at e
    · rename_i d0
      obtain ⟨v, rfl, t⟩ := top1 tt
      cases e1 : lenD d0 with
      | none => rw [e1] at e; cases e
      | some n =>
        rw [e1] at e
        cases e
        refine ⟨v, n, rfl, ?_, q _ _ (OpAft.scal (.int _))⟩
        unfold lenD at e1
        split at e1
        · cases e1
          obtain ⟨a, vs, rfl, q1, r1⟩ := t
          exact Or.inl ⟨vs, q1, (dpAll_len r1).symm⟩
        · cases e1
          obtain ⟨a, vs, rfl, q1, p1, r1⟩ := top_tup s t
          exact Or.inr ⟨vs, p1, (dpAll_len r1).symm⟩
        · split at e1
          · rename_i z c
            cases e1
            rw [top_str t]
            exact ⟨most_le c, rfl⟩
          · cases e1
        · cases e1
    · cases e
  | int =>
    refine ⟨_, call_int1, fun F H vs ds d fr Q s tt e q => ?_⟩
    unfold biG at e
    simp only at e
    split at e
    · cases e
      obtain ⟨v, rfl, t⟩ := top1 tt
      rw [top_int t]
      exact .inl ⟨_, rfl, q _ _ (OpAft.scal (.int _))⟩
    · cases e
      obtain ⟨v, rfl, t⟩ := top1 tt
      rw [top_bl t]
      exact .inr ⟨_, rfl, q _ _ (OpAft.scal (.int _))⟩
    · cases e
  | str =>
    refine ⟨_, call_str_int.or SkE.call_str_str, fun F H vs ds d fr Q s tt e q => ?_⟩
    unfold biG at e
    simp only at e
    split at e
    · split at e
      · rename_i i c
        cases e
        obtain ⟨v, rfl, t⟩ := top1 tt
        rw [top_int t]
        refine .inl ⟨_, rfl, ?_, q _ _ (OpAft.scal (.str _))⟩
        have := PySem.Flt.log2_lt_of (n := i.natAbs) (k := 64) (by decide) c
        omega
      · cases e
    · cases e
      obtain ⟨v, rfl, t⟩ := top1 tt
      rw [top_str t]
      exact .inr ⟨_, rfl, q _ _ (OpAft.scal (.str _))⟩
    · cases e
  | list =>
    refine ⟨_, call_list_of.or (call_list_text hc), fun F H vs ds d fr Q s tt e q => ?_⟩
    unfold biG at e
    simp only at e
    split at e
    · cases e
      obtain ⟨v, rfl, t⟩ := top1 tt
      obtain ⟨a, vs, rfl, q1, r1⟩ := t
      exact .inl ⟨a, vs, rfl, .inl q1, fun p hp => q _ _ (OpAft.lst hp r1)⟩
    · cases e
      obtain ⟨v, rfl, t⟩ := top1 tt
      obtain ⟨a, vs, rfl, q1, p1, r1⟩ := top_tup s t
      exact .inl ⟨a, vs, rfl, .inr p1, fun p hp => q _ _ (OpAft.lst hp r1)⟩
    · split at e
      · rename_i x c
        cases e
        obtain ⟨v, rfl, t⟩ := top1 tt
        rw [top_str t]
        exact .inr ⟨x, rfl, most_le c, fun p hp => q _ _ (OpAft.lst hp signs_dp)⟩
      · cases e
    · cases e
  | tuple =>
    refine ⟨_, call_tuple_of, fun F H vs ds d fr Q s tt e q => ?_⟩
    unfold biG at e
    simp only at e
    split at e
    · cases e
      obtain ⟨v, rfl, t⟩ := top1 tt
      obtain ⟨a, vs, rfl, q1, r1⟩ := t
      exact ⟨a, vs, rfl, .inl ⟨q1, fun p hp => q _ _ (OpAft.tup hp r1)⟩⟩
    · cases e
      obtain ⟨v, rfl, t⟩ := top1 tt
      obtain ⟨a, vs, rfl, q1, p1, r1⟩ := top_tup s t
      exact ⟨a, vs, rfl, .inr ⟨p1, q _ _ (OpAft.scal (.tup q1 r1))⟩⟩
    · cases e
  | max2 =>
    refine ⟨_, call_max2 hc, fun F H vs ds d fr Q s tt e q => ?_⟩
    unfold biG at e
    simp only at e
    split at e
    · cases e
      obtain ⟨v, w, rfl, t1, t2⟩ := top2 tt
      rw [top_int t1, top_int t2]
      exact ⟨_, _, rfl, q _ _ (OpAft.scal (.int _))⟩
    · cases e
  | min2 =>
    refine ⟨_, call_min2 hc, fun F H vs ds d fr Q s tt e q => ?_⟩
    unfold biG at e
    simp only at e
    split at e
    · cases e
      obtain ⟨v, w, rfl, t1, t2⟩ := top2 tt
      rw [top_int t1, top_int t2]
      exact ⟨_, _, rfl, q _ _ (OpAft.scal (.int _))⟩
    · cases e
  | abs =>
    refine ⟨_, call_abs, fun F H vs ds d fr Q s tt e q => ?_⟩
    unfold biG at e
    simp only at e
    split at e
    · cases e
      obtain ⟨v, rfl, t⟩ := top1 tt
      rw [top_int t]
      exact ⟨_, rfl, q _ _ (OpAft.scal (.int _))⟩
    · cases e
  | sum =>
    refine ⟨_, cr_sum hc, fun F H vs ds d fr Q s tt e q => ?_⟩
    unfold biG at e
    simp only at e
    split at e
    · rename_i xs
      cases e1 : intsOf xs with
      | none => rw [e1] at e; cases e
      | some is =>
        rw [e1] at e
        cases e
        obtain ⟨v, rfl, t⟩ := top1 tt
        obtain ⟨a, vs, rfl, q1, r1⟩ := t
        have h := ints_dp e1 r1
        subst h
        exact ⟨a, is, rfl, q1, q _ _ (OpAft.scal (.int _))⟩
    · cases e
  | all =>
    refine ⟨_, cr_all hc, fun F H vs ds d fr Q s tt e q => ?_⟩
    unfold biG at e
    simp only at e
    split at e
    · rename_i xs
      cases e1 : boolsOf xs with
      | none => rw [e1] at e; cases e
      | some is =>
        rw [e1] at e
        cases e
        obtain ⟨v, rfl, t⟩ := top1 tt
        obtain ⟨a, vs, rfl, q1, r1⟩ := t
        have h := bools_dp e1 r1
        subst h
        exact ⟨a, is, rfl, q1, q _ _ (OpAft.scal (.bl _))⟩
    · cases e
  | any =>
    refine ⟨_, cr_any hc, fun F H vs ds d fr Q s tt e q => ?_⟩
    unfold biG at e
    simp only at e
    split at e
    · rename_i xs
      cases e1 : boolsOf xs with
      | none => rw [e1] at e; cases e
      | some is =>
        rw [e1] at e
        cases e
        obtain ⟨v, rfl, t⟩ := top1 tt
        obtain ⟨a, vs, rfl, q1, r1⟩ := t
        have h := bools_dp e1 r1
        subst h
        exact ⟨a, is, rfl, q1, q _ _ (OpAft.scal (.bl _))⟩
    · cases e
  | sorted =>
    refine ⟨_, cr_sorted, fun F H vs ds d fr Q s tt e q => ?_⟩
    unfold biG at e
    simp only at e
    split at e
    · rename_i xs
      split at e
      · rename_i c
        cases e1 : intsOf xs with
        | none => rw [e1] at e; cases e
        | some is =>
          rw [e1] at e
          cases e
          obtain ⟨v, rfl, t⟩ := top1 tt
          obtain ⟨a, vs, rfl, q1, r1⟩ := t
          have hl := dpAll_len r1
          have h := ints_dp e1 r1
          subst h
          rw [List.length_map] at hl
          refine ⟨a, is, rfl, q1, by omega, fun ns p pm so hp => ?_⟩
          rw [sorted_uniq (pm.trans (sortI_perm is).symm) so (sortI_sorted is)]
          exact q _ _ (OpAft.lst hp (dp_ints _))
      · cases e
    · cases e
theorem me_bi {Z : ZT} {f : Bi} {p pos : Pos} {e : Expr} {es : List Expr} {fs : List (M RV)} (hc : X.calm = true) (hg : Gl X (biName f)) (hm : X.mg (biName f) = none) (ha : PA X (e :: es) (tAs X.K Z (evAll fs)))
    (he : starEach (e :: es) X.env = (false, eval e X.env) :: starEach es X.env) (hpl : (backTo pos (starEach es X.env)).any (·.1) = false) : PE X (.Call (.Name (biName f) p) (e :: es) [] pos) (tE X.K Z (evCallB (biG f) fs)) := by
  obtain ⟨r, h1, h2⟩ := bi_ok hc f
  have hb := biBoot f
  obtain ⟨n1, n2⟩ := biNm f
  cases f <;> first
    | exact me_callB h1 h2 hg hm hb ha n1 n2 he hpl
    | exact me_callTy h1 h2 hg hm hb ha n1 n2 he hpl

/-! ### isinstance -/
inductive Ty where
  | bool | int | str | list | tuple
  deriving DecidableEq
def tyS : Ty → String
  | .bool => "bool" | .int => "int" | .str => "str" | .list => "list" | .tuple => "tuple"
def tyNm : Ty → Str
  | .bool => "bool" | .int => "int" | .str => "str" | .list => "list" | .tuple => "tuple"
def isTy : D → Ty → Bool
  | .bool _, .bool => true
  | .bool _, .int => true
  | .int _, .int => true
  | .str _, .str => true
  | .list _, .list => true
  | .tuple _, .tuple => true
  | _, _ => false
def dTy : D → String
  | .none => "NoneType" | .bool _ => "bool" | .int _ => "int" | .str _ => "str" | .list _ => "list" | .tuple _ => "tuple" | .dict _ => "dict"
theorem kit_isTy : ∀ (d : D) (t : Ty), (∀ kvs, d ≠ .dict kvs) → kitB (dTy d) (tyS t) = some (isTy d t) := by
  intro d t hd
  cases d with
  | none => cases t <;> rfl
  | bool k => cases t <;> rfl
  | int i => cases t <;> rfl
  | str x => cases t <;> rfl
  | list xs => cases t <;> rfl
  | tuple xs => cases t <;> rfl
  | dict kvs => exact absurd rfl (hd kvs)
theorem tyx_of {F H : Hp} {v : V} {d : D} (s : Same F H) (t : Top K F H v d) : TyX K H v (.type (dTy d)) := by
  have key : ∀ {a : Addr} {vs : List V}, SqL K H a vs → TyX K H (.ref a) (.type "list") := fun {a vs} h => by
    rcases h with (h | ⟨o, h⟩) | ⟨o, its, n, h1, h2, _⟩
    · exact .base (.lst h)
    · exact .base (.frz h)
    · exact .kList h1 h2
  have keyT : ∀ {a : Addr} {vs : List V}, SqT K H a vs → TyX K H (.ref a) (.type "tuple") := fun {a vs} h => by
    rcases h with (h | ⟨o, h⟩) | ⟨o, its, n, h1, h2, _⟩
    · exact .base (.tup h)
    · exact .fTuple h
    · exact .kTuple h1 h2
  cases d with
  | list ds => obtain ⟨a, vs, rfl, q1, r1⟩ := t; exact key q1
  | tuple ds => obtain ⟨a, vs, rfl, q1, p1, r1⟩ := top_tup s t; exact keyT p1
  | none => rw [top_non t]; exact .base .non
  | bool k => rw [top_bl t]; exact .base (.bl k)
  | int i => rw [top_int t]; exact .base (.int i)
  | str x => rw [top_str t]; exact .base (.str x)
  | dict kvs =>
    have q : Dp K F v (.dict kvs) := t
    cases q
theorem not_dict {F H : Hp} {v : V} {d : D} (t : Top K F H v d) : ∀ kvs, d ≠ .dict kvs := fun kvs e => by
  subst e
  have q : Dp K F v (.dict kvs) := t
  cases q
def gIsi (ts : List Ty) : G1 := fun d => some (.bool (ts.any (isTy d)), false)
theorem tyNm_boot : ∀ t, bootBuiltins (tyNm t) = some (.type (tyS t)) ∧ tyNm t ≠ "__name__" ∧ (tyNm t == ("__debug__" : Str)) = false := by intro t; cases t <;> decide +kernel
/-- isinstance(x, T) -/
theorem me_isi {Z : ZT} {fa : M RV} {e : Expr} {p p2 pos : Pos} {t : Ty} (hg : Gl X "isinstance") (hm : X.mg "isinstance" = none) (hgt : Gl X (tyNm t)) (hmt : X.mg (tyNm t) = none) (ha : PE X e (tE X.K Z fa))
    (he : starEach [e, .Name (tyNm t) p2] X.env = (false, eval e X.env) :: starEach [.Name (tyNm t) p2] X.env) : PE X (.Call (.Name "isinstance" p) [e, .Name (tyNm t) p2] [] pos) (tE X.K Z (evUn (gIsi [t]) fa)) := by
  obtain ⟨b1, b2, b3⟩ := tyNm_boot t
  have hT : PE X (.Name (tyNm t) p2) (tC (.ty (tyS t))) := pe_bltn hgt hmt b1 rfl b2 b3
  refine pe_imp (pe_callB call_isi hg hm (by decide +kernel) (pa_cons ha (pa_cons hT pa_nil (by rfl)) he) (by decide) (by decide) he (by rfl)) fun σ H Q h => ?_
  refine tE_mono (one_ok (R := fun v H1 => rIsi X.K [v, .ty (tyS t)] H1 Q) h fun F H2 v1 d1 d fr s t1 e q => ?_) fun v H1 q => q
  unfold gIsi at e
  cases e
  refine ⟨v1, _, _, _, _, rfl, .ty _, tyx_of s t1, kit_ty (kit_isTy d1 t (not_dict t1)), ?_⟩
  have q' := q _ _ (OpAft.scal (.bl _))
  rw [List.any_cons, List.any_nil, Bool.or_false] at q'
  exact q'
/-- isinstance(x, (T, U)) -/
theorem me_isi2 {Z : ZT} {fa : M RV} {e : Expr} {p p2 p3 p4 pos : Pos} {k : Nat} {t u : Ty} (hg : Gl X "isinstance") (hm : X.mg "isinstance" = none) (hgt : Gl X (tyNm t)) (hmt : X.mg (tyNm t) = none) (hgu : Gl X (tyNm u)) (hmu : X.mg (tyNm u) = none) (ha : PE X e (tE X.K Z fa))
    (he : starEach [e, .Tuple [.Name (tyNm t) p2, .Name (tyNm u) p3] k p4] X.env = (false, eval e X.env) :: starEach [.Tuple [.Name (tyNm t) p2, .Name (tyNm u) p3] k p4] X.env) :
    PE X (.Call (.Name "isinstance" p) [e, .Tuple [.Name (tyNm t) p2, .Name (tyNm u) p3] k p4] [] pos) (tE X.K Z (evUn (gIsi [t, u]) fa)) := by
  obtain ⟨b1, b2, b3⟩ := tyNm_boot t
  obtain ⟨c1, c2, c3⟩ := tyNm_boot u
  have hT : PE X (.Name (tyNm t) p2) (tC (.ty (tyS t))) := pe_bltn hgt hmt b1 rfl b2 b3
  have hU : PE X (.Name (tyNm u) p3) (tC (.ty (tyS u))) := pe_bltn hgu hmu c1 rfl c2 c3
  have hP : PE X (.Tuple [.Name (tyNm t) p2, .Name (tyNm u) p3] k p4) (tTup (tCons (tC (.ty (tyS t))) (tCons (tC (.ty (tyS u))) tNil))) := pe_tup (pa_cons hT (pa_cons hU pa_nil (by rfl)) (by rfl))
  refine pe_imp (pe_callB call_isiT hg hm (by decide +kernel) (pa_cons ha (pa_cons hP pa_nil (by rfl)) he) (by decide) (by decide) he (by rfl)) fun σ H Q h => ?_
  obtain ⟨b, en, oa, sim, h⟩ := h
  refine ⟨b, en, oa, sim, ?_⟩
  unfold evUn at h
  cases e1 : fa en with
  | err => rw [e1] at h; exact h.elim
  | exc x en1 => rw [e1] at h; exact h
  | ok r1 en1 =>
    rw [e1] at h
    simp only [Res.bind] at h
    intro v H1 a1
    obtain ⟨s1, x1, rv⟩ := a1.plain
    cases e2 : rvD en1 r1 with
    | none => rw [e2] at h; exact h.elim
    | some d =>
      rw [e2] at h
      simp only [gIsi, fin] at h
      have t1 := top_of s1 rv e2
      refine ⟨by show 2 ≤ sizeLine; decide, fun q hq => ?_⟩
      have nd := not_dict t1
      have m : Same H1 (upd H1 q (.tup [.ty (tyS t), .ty (tyS u)])) := same_upd hq
      have ty := tyx_of (hide_same (H := H1) (S := Hid b en1 oa)) t1
      have s2 := s1.mono m
      have t2 : Top X.K (Frz b (upd H1 q (.tup [.ty (tyS t), .ty (tyS u)])) en1 oa) (upd H1 q (.tup [.ty (tyS t), .ty (tyS u)])) v d := top_of s2 (rv.ext (s1.ext_new hq)) e2
      refine ⟨v, q, [.ty (tyS t), .ty (tyS u)], _, [.type (tyS t), .type (tyS u)], ([t, u].any (isTy d)), rfl, upd_same, .cons (.ty _) (.cons (.ty _) .nil), tyx_of hide_same t2, ?_, h _ _ ⟨s2, x1.trans (s1.ext_new hq), .bl _⟩⟩
      have k1 := kit_ty (K := X.K) (kit_isTy d t nd)
      have k2 := kit_ty (K := X.K) (kit_isTy d u nd)
      refine kitAny_cons k1 (fun z => ?_) fun z => ?_
      · refine kitAny_cons k2 (fun z2 => ?_) fun z2 => ?_
        · rw [List.any_cons, List.any_cons, List.any_nil, z, z2]; exact kitAny_nil
        · rw [List.any_cons, List.any_cons, List.any_nil, z2]; simp
      · rw [List.any_cons, z]; rfl

/-! ### methods of texts and lists -/
inductive Me where
  | join | split | sindex | lindex
  deriving DecidableEq
def strsOf : List D → Option (List Str)
  | [] => some []
  | .str x :: r => (strsOf r).map fun is => x :: is
  | _ => none
/-- where the first equal one stands -/
def findD (d : D) (k : Nat) : List D → Option Nat
  | [] => none
  | z :: r => if PyData.eqv z d = true then some k else findD d (k + 1) r
def meG : Me → GM
  | .join => fun d ds => match d, ds with
    | .str a, [.list xs] => (strsOf xs).bind fun ys => if (ys.map (·.length)).sum + ys.length * a.length ≤ most then some (.str (Txt.join a ys), false) else none
    | .str a, [.tuple xs] => (strsOf xs).bind fun ys => if (ys.map (·.length)).sum + ys.length * a.length ≤ most then some (.str (Txt.join a ys), false) else none
    | _, _ => none
  | .split => fun d ds => match d, ds with
    | .str a, [.str b] => if (b.length == 0) = false ∧ a.length + 2 ≤ most then some (.list ((Txt.split a b).map .str), true) else none
    | _, _ => none
  | .sindex => fun d ds => match d, ds with
    | .str a, [.str b] => (Txt.index0 a b).map fun k => (.int (k : Nat), false)
    | _, _ => none
  | .lindex => fun d ds => match d, ds with
    | .list xs, [y] => if flatD y && xs.all flatD then (findD y 0 xs).map fun k => (.int (k : Nat), false) else if SeqAt.shaped y && SeqAt.shaped (.list xs) then (findD y 0 xs).map fun k => (.int (k : Nat), false) else none
    | _, _ => none
def meT : Me → String
  | .lindex => "list"
  | _ => "str"
def meName : Me → Str
  | .join => "join" | .split => "split" | .sindex => "index" | .lindex => "index"
theorem strs_dp {F : Hp} : ∀ {vs : List V} {ds : List D} {is : List Str}, strsOf ds = some is → DpAll K F vs ds → vs = is.map V.str
  | _, _, is, h, .nil => by cases h; rfl
  | _, _, is, h, .cons q r => by
    cases q with
    | str i =>
      unfold strsOf at h
      obtain ⟨js, e, rfl⟩ := Option.map_eq_some_iff.mp h
      rw [strs_dp e r]; rfl
    | _ => cases h
theorem dp_strs {F : Hp} : ∀ (is : List Str), DpAll K F (is.map V.str) (is.map PyData.str)
  | [] => .nil
  | i :: r => .cons (.str i) (dp_strs r)
theorem findD_spec {d : D} : ∀ {l : List D} {k j : Nat}, findD d k l = some j → k ≤ j ∧ ∃ z, l[j - k]? = some z ∧ PyData.eqv z d = true ∧ ∀ (m : Nat) (z' : D), m < j - k → l[m]? = some z' → PyData.eqv z' d = false
  | [], _, _, h => by cases h
  | z :: r, k, j, h => by
    unfold findD at h
    split at h
    · rename_i c
      cases h
      refine ⟨Nat.le_refl _, z, by rw [Nat.sub_self]; rfl, c, fun m z' hm => by omega⟩
    · rename_i c
      obtain ⟨h1, y, h2, h3, h4⟩ := findD_spec h
      refine ⟨by omega, y, ?_, h3, fun m z' hm e => ?_⟩
      · rw [show j - k = (j - (k + 1)) + 1 by omega, List.getElem?_cons_succ]; exact h2
      · cases m with
        | zero =>
          rw [List.getElem?_cons_zero] at e
          cases e
          simpa using c
        | succ m => exact h4 m z' (by omega) (by simpa using e)
def rMeA (K : PySem.W.Frag) (r : V → List V → Hp → VK → Prop) : Prop := True
/-- each method -/
theorem me_ok (hc : X.calm = true) (hu : X.A.units + 65 < cLine) (m : Me) : ∃ (id : String) (r : V → List V → Hp → VK → Prop), PlainAttrs (meT m) ∧ Slot (meT m) (meName m) id ∧ typeOf (.builtin id) = pure (.type "method_descriptor") ∧ MtS X id (fun _ x xs H Q => r x xs H Q) ∧ OpM X.K r (meG m) := by
  cases m with
  | join =>
    refine ⟨_, _, PySem.F.plainAttrs_str, PySem.F.slot_str_join, PySem.F.type_str_join, mt_join.toS, fun F H v vs d1 ds d fr Q s t1 tt e q => ?_⟩
    unfold meG at e
    simp only at e
    split at e
    · rename_i a xs
      obtain ⟨ys, e1, e2⟩ := Option.bind_eq_some_iff.mp e
      split at e2
      · rename_i c
        cases e2
        obtain ⟨w, rfl, t⟩ := top1 tt
        obtain ⟨p, vs, rfl, q1, r1⟩ := t
        have h := strs_dp e1 r1
        subst h
        rw [top_str t1]
        exact ⟨a, p, ys, rfl, rfl, .inl q1, by unfold most at c; omega, q _ _ (OpAft.scal (.str _))⟩
      · cases e2
    · rename_i a xs
      obtain ⟨ys, e1, e2⟩ := Option.bind_eq_some_iff.mp e
      split at e2
      · rename_i c
        cases e2
        obtain ⟨w, rfl, t⟩ := top1 tt
        obtain ⟨p, vs, rfl, q1, p1, r1⟩ := top_tup s t
        have h := strs_dp e1 r1
        subst h
        rw [top_str t1]
        exact ⟨a, p, ys, rfl, rfl, .inr p1, by unfold most at c; omega, q _ _ (OpAft.scal (.str _))⟩
      · cases e2
    · cases e
  | split =>
    refine ⟨_, _, PySem.F.plainAttrs_str, PySem.F.slot_str_split, PySem.F.type_str_split, mt_split.toS, fun F H v vs d1 ds d fr Q s t1 tt e q => ?_⟩
    unfold meG at e
    simp only at e
    split at e
    · split at e
      · rename_i c
        cases e
        obtain ⟨w, rfl, t⟩ := top1 tt
        rw [top_str t1, top_str t]
        exact ⟨_, _, rfl, rfl, c.1, most_le c.2, fun p hp => q _ _ (OpAft.lst hp (dp_strs _))⟩
      · cases e
    · cases e
  | sindex =>
    refine ⟨_, (fun x xs H Q => ∃ (a b : Str) (k : Nat), x = .str a ∧ xs = [.str b] ∧ Txt.index0 a b = some k ∧ Q (.int (k : Nat)) H), PySem.F.plainAttrs_str, PySem.F.slot_str_index, PySem.F.type_str_index, ?_, fun F H v vs d1 ds d fr Q s t1 tt e q => ?_⟩
    · intro pins s σ H x xs v us Q I rx rs ⟨a, b, k, h1, h2, h3, h4⟩
      exact mt_indexX (W := fun _ _ _ _ => False) hc takes0 pins s σ H x xs v us Q I rx rs ⟨a, b, h1, h2, fun k' e => by rw [h3] at e; cases e; exact h4, fun e => by rw [h3] at e; cases e⟩
    · unfold meG at e
      simp only at e
      split at e
      · rename_i a b
        cases e1 : Txt.index0 a b with
        | none => rw [e1] at e; cases e
        | some k =>
          rw [e1] at e
          cases e
          obtain ⟨w, rfl, t⟩ := top1 tt
          exact ⟨a, b, k, top_str t1, by rw [top_str t], e1, q _ _ (OpAft.scal (.int _))⟩
      · cases e
  | lindex =>
    refine ⟨_, _, PySem.F.plainAttrs_list, PySem.F.slot_list_index, PySem.F.type_list_index, (mt_index.or (mt_indexD hu)).toS, fun F H v vs d1 ds d fr Q s t1 tt e q => ?_⟩
    unfold meG at e
    simp only at e
    split at e
    · rename_i xs y
      obtain ⟨w, rfl, t⟩ := top1 tt
      have hy := t.dp s
      split at e
      · rename_i c
        rw [Bool.and_eq_true] at c
        cases e1 : findD y 0 xs with
        | none => rw [e1] at e; cases e
        | some j =>
          rw [e1] at e
          cases e
          obtain ⟨_, z, h2, h3, h4⟩ := findD_spec e1
          rw [Nat.sub_zero] at h2 h4
          obtain ⟨p, us, rfl, q1, r1⟩ := t1
          have r1' := dpAll_mono s r1
          obtain ⟨zv, e2, rz⟩ := dpAll_get r1' h2
          have fz : ∀ {i : Nat} {u : V} {x : D}, us[i]? = some u → xs[i]? = some x → Dp X.K H u x → eqV u w = PyData.eqv x y := fun {i u x} _ ex rx => eqV_dp (List.all_eq_true.mp c.2 _ (List.mem_of_getElem? ex)) c.1 rx hy
          refine .inl ⟨p, us, w, j, zv, rfl, rfl, q1, flat_dp c.1 hy, flat_all c.2 r1', e2, (fz e2 h2 rz).trans h3, fun m z' hm em => ?_, q _ _ (OpAft.scal (.int _))⟩
          have hm' : m < xs.length := by
            have := lt_of_get em
            rw [dpAll_len r1'] at this; exact this
          obtain ⟨x', ex⟩ : ∃ x', xs[m]? = some x' := ⟨_, List.getElem?_eq_getElem hm'⟩
          obtain ⟨zv', e3, rz'⟩ := dpAll_get r1' ex
          rw [em] at e3
          cases e3
          exact (fz em ex rz').trans (h4 m x' hm ex)
      · split at e
        · rename_i c
          rw [Bool.and_eq_true] at c
          cases e1 : findD y 0 xs with
          | none => rw [e1] at e; cases e
          | some j =>
            rw [e1] at e
            cases e
            obtain ⟨_, z, h2, h3, h4⟩ := findD_spec e1
            rw [Nat.sub_zero] at h2 h4
            have hl := Top.dp t1 s
            obtain ⟨p, us, rfl, q1, r1⟩ := t1
            exact .inr ⟨p, w, y, xs, j, z, rfl, rfl, hl, hy, c.2, c.1, h2, h3, h4, q _ _ (OpAft.scal (.int _))⟩
        · cases e
    · cases e
theorem me_methS {Z : ZT} {fo : M RV} {m : Me} {apos cpos : Pos} {o e : Expr} {es : List Expr} {fs : List (M RV)} (hc : X.calm = true) (hu : X.A.units + 65 < cLine) (ho : PE X o (tE X.K Z fo)) (ha : PA X (e :: es) (tAs X.K Z (evAll fs))) (mc : MCall X o (meName m) apos cpos (e :: es)) :
    PE X (.Call (.Attribute o (meName m) apos) (e :: es) [] cpos) (tE X.K Z (evMeth (meT m) (meG m) fo fs)) := by
  obtain ⟨id, r, pl, sl, hty, hm, hr⟩ := me_ok hc hu m
  obtain ⟨hs, hp⟩ := mc.star e es rfl
  refine pe_imp (pe_bmS pl sl hty hm ho ha mc.base mc.few mc.line hs hp) fun σ H Q h => ?_
  obtain ⟨b, en, oa, sim, h⟩ := h
  refine ⟨b, en, oa, sim, ?_⟩
  unfold evMeth at h
  cases e1 : fo en with
  | err => rw [e1] at h; exact h.elim
  | exc x en1 => rw [e1] at h; exact h
  | ok r1 en1 =>
    rw [e1] at h
    simp only [Res.bind] at h
    intro v H1 a1
    obtain ⟨s1, x1, rv1⟩ := a1.plain
    cases e2 : rvD en1 r1 with
    | none => rw [e2] at h; exact h.elim
    | some d0 =>
      rw [e2] at h
      simp only at h
      by_cases c : tyD (meT m) d0 = true
      · rw [if_pos c] at h
        refine ⟨tyD_ok (top_of s1 rv1 e2) c, b, en1, oa, s1, ?_⟩
        cases e3 : evAll fs en1 with
        | err => rw [e3] at h; exact h.elim
        | exc x en2 => rw [e3] at h; exact h
        | ok rs en2 =>
          rw [e3] at h
          simp only at h
          intro vs H2 s2 x2 r2
          cases e4 : rvD en2 r1 with
          | none => rw [e4] at h; exact h.elim
          | some d1 =>
            cases e5 : rvDs en2 rs with
            | none => rw [e4, e5] at h; exact h.elim
            | some ds =>
              rw [e4, e5] at h
              simp only at h
              cases e6 : meG m d1 ds with
              | none => rw [e6] at h; exact h.elim
              | some p =>
                obtain ⟨d, fr⟩ := p
                rw [e6] at h
                exact hr _ H2 v vs d1 ds d fr Q hide_same (top_of s2 (rv1.ext x2) e4) (topAll_of s2 r2 e5) e6 fun v H' q => h v H' ((q.aft s2).from (x1.trans x2))
      · rw [if_neg c] at h
        exact h.elim

/-! ### f-strings -/
def gFmt : G1 := fun d => match d with
  | .str x => if x.length ≤ most then some (.str x, false) else none
  | .int i => if i.natAbs < 2 ^ 64 then some (.str (strI i), false) else none
  | _ => none
theorem me_fmt {Z : ZT} {fa : M RV} {e : Expr} {pos : Pos} (he : PE X e (tE X.K Z fa)) : PE X (.FormattedValue e (-1) none pos) (tE X.K Z (evUn gFmt fa)) :=
  pe_imp (pe_fmt he) fun σ H Q h => one_ok (R := fun x H1 => (∃ y : Str, x = .str y ∧ y.length ≤ sizeLine ∧ Q (.str y) H1) ∨ ∃ i : Int, x = .int i ∧ i.natAbs.log2 < 1920 ∧ Q (.str (toString i)) H1) h fun F H2 v1 d1 d fr s t1 e q => by
    unfold gFmt at e
    split at e
    · split at e
      · rename_i c
        cases e
        exact .inl ⟨_, top_str t1, most_le c, q _ _ (OpAft.scal (.str _))⟩
      · cases e
    · split at e
      · rename_i i c
        cases e
        refine .inr ⟨_, top_int t1, ?_, q _ _ (OpAft.scal (.str _))⟩
        have := PySem.Flt.log2_lt_of (n := i.natAbs) (k := 64) (by decide) c
        omega
      · cases e
    · cases e
def evJoin : List (M RV) → Str → M RV
  | [], acc => fun en => .ok (.val (.str acc) false) en
  | f :: fs, acc => fun en => (f en).bind fun r en1 => match r with
    | .val (.str y) _ => if (acc ++ y).length ≤ most then evJoin fs (acc ++ y) en1 else .err
    | _ => .err
inductive MJ (X : Cx) (Z : ZT) : List Expr → List (M RV) → Prop where
  | nil : MJ X Z [] []
  | cons {e : Expr} {f : M RV} {es : List Expr} {fs : List (M RV)} (h : PE X e (tE X.K Z f)) (r : MJ X Z es fs) : MJ X Z (e :: es) (f :: fs)
theorem mj_pj {Z : ZT} {es : List Expr} {fs : List (M RV)} (h : MJ X Z es fs) : PJ X es (fs.map (tE X.K Z)) := by
  induction h with
  | nil => exact .nil
  | cons h _ ih => exact .cons h ih
theorem join_ok {Z : ZT} : ∀ (fs : List (M RV)) (acc : Str) {σ : St} {H : Hp} {Q : VK}, tE X.K Z (evJoin fs acc) σ H Q → tJs (fs.map (tE X.K Z)) acc σ H fun out H1 => Q (.str out) H1
  | [], acc, σ, H, Q, h => by
    obtain ⟨b, en, oa, sim, h⟩ := h
    exact h _ H ⟨sim, Ext.refl, .str acc⟩
  | f :: fs, acc, σ, H, Q, h => by
    obtain ⟨b, en, oa, sim, h⟩ := h
    refine ⟨b, en, oa, sim, ?_⟩
    unfold evJoin at h
    cases e1 : f en with
    | err => rw [e1] at h; exact h.elim
    | exc x en1 => rw [e1] at h; exact h
    | ok r en1 =>
      rw [e1] at h
      simp only [Res.bind] at h
      intro v H1 a1
      obtain ⟨s1, x1, rv⟩ := a1.plain
      cases r with
      | loc i => exact h.elim
      | val d fr =>
        cases d with
        | str y =>
          simp only at h
          by_cases c : (acc ++ y).length ≤ most
          · rw [if_pos c] at h
            have q : Dp X.K _ v (.str y) := rv
            cases q
            refine ⟨y, rfl, most_le c, join_ok fs (acc ++ y) ⟨b, en1, oa, s1, ?_⟩⟩
            cases e2 : evJoin fs (acc ++ y) en1 with
            | err => rw [e2] at h; exact h.elim
            | exc x en2 => rw [e2] at h; exact h
            | ok r2 en2 => rw [e2] at h; exact fun v H' a => h v H' (a.from x1)
          · rw [if_neg c] at h; exact h.elim
        | _ => exact h.elim
theorem me_joined {Z : ZT} {v1 v2 : Expr} {rest : List Expr} {fs : List (M RV)} {pos : Pos} (h : MJ X Z (v1 :: v2 :: rest) fs) : PE X (.JoinedStr (v1 :: v2 :: rest) pos) (tE X.K Z (evJoin fs Str.empty)) :=
  pe_imp (pe_joined (mj_pj h)) fun σ H Q h => join_ok fs _ h
end
end Mi
set_option Elab.async false
set_option linter.all false
set_option maxRecDepth 100000
set_option autoImplicit false
/-! MiC: the mini language, what it computes, how it is held against the text -/
namespace Mi
open PySem PySem.Spec L2

mutual
inductive CE where
  | var (i : Nat) | take (i : Nat) | frz (i : Nat) | lit (c : Const) | glob (x : Str) (d : D)
  | bin (o : Operator) (a b : CE) | neg (a : CE) | cmp (o : CmpOp) (a b : CE) | chain (o o' : CmpOp) (a b c : CE)
  | bool (k : Bool) (es : CEs) | not (a : CE) | ite (c a b : CE) | tup (es : CEs) | lst (es : CEs)
  | idx (a i : CE) | slc (a : CE) (lo hi : CEs)
  | call (x : Str) (n : Nat) (g : FSem) (es : CEs) | bi (f : Bi) (es : CEs) | isi (a : CE) (t : Ty) | isi2 (a : CE) (t u : Ty) | meth (m : Me) (o : CE) (es : CEs)
  | app (i : Nat) (a : CE) | pop (i : Nat) | pop0 (i : Nat)
  | comp (own : List (Str × Nat)) (elt : CE) (tg : Tg) (it : CI) (ifs : CEs)
  | fstr (es : CEs) | fmt (a : CE)
inductive CEs where
  | nil | cons (e : CE) (r : CEs)
inductive CI where
  | seq (e : CE) | rng1 (a : CE) | rng2 (a b : CE) | enum (e : CE) | zip (a b : CE)
inductive Tg where
  | name (i : Nat) | sub (i : Nat) (k : CE) | tup (ts : Tgs)
inductive Tgs where
  | nil | cons (t : Tg) (r : Tgs)
end
def gNeg : G1 := fun d => match d with
  | .int i => some (.int (-i), false)
  | _ => none
def errM {α : Type} : M α := fun _ => .err
def CEs.len : CEs → Nat
  | .nil => 0
  | .cons _ r => r.len + 1
def Tgs.len : Tgs → Nat
  | .nil => 0
  | .cons _ r => r.len + 1
mutual
def evE : CE → M RV
  | .var i => evVar i
  | .take i => evTake i
  | .frz i => evFrz i
  | .lit c => evLit c
  | .glob _ d => evD d
  | .bin o a b => match binG o with
    | some g => evBin g (evE a) (evE b)
    | none => errM
  | .neg a => evUn gNeg (evE a)
  | .cmp o a b => evBin (cmpG o) (evE a) (evE b)
  | .chain o o' a b c => match cmpI o, cmpI o' with
    | some p, some p' => evChain p p' (evE a) (evE b) (evE c)
    | _, _ => errM
  | .bool k es => evBlV k (evEs es)
  | .not a => evNot (evB (evE a))
  | .ite c a b => evIte (evB (evE c)) (evE a) (evE b)
  | .tup es => evMk mkTup (evEs es)
  | .lst es => evMk mkLst (evEs es)
  | .idx a i => evBin gIdx (evE a) (evE i)
  | .slc a lo hi => evSl gSl (evE a) (evP lo) (evP hi)
  | .call _ _ g es => evUser g (evEs es)
  | .bi f es => evCallB (biG f) (evEs es)
  | .isi a t => evUn (gIsi [t]) (evE a)
  | .isi2 a t u => evUn (gIsi [t, u]) (evE a)
  | .meth m o es => evMeth (meT m) (meG m) (evE o) (evEs es)
  | .app i a => evApp i (evE a)
  | .pop i => evPop i
  | .pop0 i => evPop0 i
  | .comp own elt tg it ifs => evComp (own.map (·.2)) (evI it) (evTg tg) (evIf ifs) (evE elt)
  | .fstr es => evJoin (evEs es) Str.empty
  | .fmt a => evUn gFmt (evE a)
def evEs : CEs → List (M RV)
  | .nil => []
  | .cons e r => evE e :: evEs r
def evP : CEs → M (Option Int)
  | .nil => evNoPart
  | .cons e _ => evPart (evE e)
def evIf : CEs → M Bool
  | .nil => evYes
  | .cons e _ => evB (evE e)
def evI : CI → M Src
  | .seq e => evIter (evE e)
  | .rng1 a => evSrc rng1 [evE a]
  | .rng2 a b => evSrc rng2 [evE a, evE b]
  | .enum e => evSrc enum1 [evE e]
  | .zip a b => evSrc zip2 [evE a, evE b]
def evTg : Tg → D → M Unit
  | .name i => tgName i
  | .sub i k => tgSub i (evE k)
  | .tup ts => tgTup ts.len (evTgs ts)
def evTgs : Tgs → List D → M Unit
  | .nil => tgsNil
  | .cons t r => tgsCons (evTg t) (evTgs r)
end
mutual
inductive CS where
  | set (i : Nat) (e : CE) | own (i : Nat) (e : CE) | asg (t : Tg) (e : CE) | par (i j : Nat) (a b : CE)
  | expr (e : CE) | ret (e : CE) | retN | if_ (c : CE) (a b : CSs) | for_ (t : Tg) (it : CI) (body : CSs) | while_ (c : CE) (body : CSs)
  | pass | brk | cnt | never
inductive CSs where
  | nil | cons (s : CS) (r : CSs)
end
/-- more turns than any loop here takes -/
def fuel : Nat := 1000000000000
mutual
def evS : CS → Fr → SRes
  | .set i e => xSet i (evE e)
  | .own i e => xOwn i (evE e)
  | .asg t e => xAsg (evE e) (evTg t)
  | .par i j a b => xPar i j [evE a, evE b] true true
  | .expr e => xExpr (evE e)
  | .ret e => xRet (evE e)
  | .retN => xRet evNone
  | .if_ c a b => xIf (evB (evE c)) (evSs a) (evSs b)
  | .for_ t it body => xFor (evI it) (evTg t) (evSs body)
  | .while_ c body => xWhile (evB (evE c)) (evSs body) fuel
  | .pass => xNil
  | .brk => SRes.brk
  | .cnt => SRes.cnt
  | .never => fun _ => .err
def evSs : CSs → Fr → SRes
  | .nil => xNil
  | .cons s r => xSeq (evS s) (evSs r)
end

/-! ### held against the text -/
def isVis (sc : Scope) (x : Str) : Bool := match sc.names.lookup x with
  | some .local | some .cell | some .free => true
  | _ => false
def isLoc (sc : Scope) (x : Str) : Bool := match sc.names.lookup x with
  | some .local | some .cell => true
  | _ => false
def isGl (sc : Scope) (x : Str) : Bool := sc.names.lookup x == some .globalImplicit
def nmOk (x : Str) : Bool := !(x == ("__debug__" : Str)) && !(x == ("__classdict__" : Str))
def notIte : CE → Bool
  | .ite .. => false
  | _ => true
def notCall : Expr → Bool
  | .Call .. => false
  | _ => true
def notSlice : Expr → Bool
  | .Slice .. => false
  | _ => true
def allTest : CEs → Bool
  | .nil => true
  | .cons e r => notIte e && allTest r
mutual
def slTg : Tg → List Nat
  | .name i => [i]
  | .sub _ _ => []
  | .tup ts => slTgs ts
def slTgs : Tgs → List Nat
  | .nil => []
  | .cons t r => slTg t ++ slTgs r
end
/-- no error can come of it -/
def quiet : CE → Bool
  | .var _ | .lit _ | .glob _ _ => true
  | .bin _ a b => quiet a && quiet b
  | .idx a b => quiet a && quiet b
  | .neg a => quiet a
  | _ => false
def blkFs (scope sc : Scope) (x : Str) : Bool := scope.names.lookup x == some .cell || (relS scope sc).names.lookup x == some .local
def notStar : Expr → Bool
  | .Starred .. => false
  | _ => true
def notSet : Expr → Bool
  | .Set .. => false
  | _ => true
def opIs : BoolOp → Bool → Bool
  | .And, true => true
  | .Or, false => true
  | _, _ => false
structure CkCx where
  fr : List Str
  N : List Str
mutual
def ckE (T : CkCx) (sc : Scope) : CE → Expr → Bool
  | .var i, w => match w with
    | .Name x _ => T.N[i]? == some x && isVis sc x && nmOk x
    | _ => false
  | .take i, w => match w with
    | .Name x _ => T.N[i]? == some x && isVis sc x && nmOk x
    | _ => false
  | .frz i, w => match w with
    | .Name x _ => T.N[i]? == some x && isVis sc x && nmOk x
    | _ => false
  | .lit c, w => match w with
    | .Constant c' _ _ => c == c'
    | _ => false
  | .glob y _, w => match w with
    | .Name x _ => y == x && isGl sc x && nmOk x
    | _ => false
  | .bin o a b, w => match w with
    | .BinOp l o' r _ => o == o' && ckE T sc a l && ckE T sc b r
    | _ => false
  | .neg a, w => match w with
    | .UnaryOp .USub e _ => ckE T sc a e
    | _ => false
  | .cmp o a b, w => match w with
    | .Compare l [o'] [r] _ => o == o' && ckE T sc a l && ckE T sc b r && !behindInMarks o r
    | _ => false
  | .chain o o' a b c, w => match w with
    | .Compare l [p, p'] [m, r] _ => o == p && o' == p' && ckE T sc a l && ckE T sc b m && ckE T sc c r && !lastMarks [o, o'] [m, r]
    | _ => false
  | .bool k es, w => match w with
    | .BoolOp op vs _ => opIs op k && allTest es && ckEs T sc es vs && !vs.isEmpty
    | _ => false
  | .not a, w => match w with
    | .UnaryOp .Not e _ => notIte a && ckE T sc a e
    | _ => false
  | .ite c a b, w => match w with
    | .IfExp t x y _ => notIte c && ckE T sc c t && ckE T sc a x && ckE T sc b y
    | _ => false
  | .tup es, w => match w with
    | .Tuple vs _ _ => ckEs T sc es vs && decide (vs.length ≤ 1000)
    | _ => false
  | .lst es, w => match w with
    | .List vs _ => ckEs T sc es vs && decide (vs.length ≤ 1000)
    | _ => false
  | .idx a i, w => match w with
    | .Subscript l r _ => ckE T sc a l && ckE T sc i r && notSlice r
    | _ => false
  | .slc a lo hi, w => match w with
    | .Subscript l (.Slice lo' hi' none _) _ => ckE T sc a l && ckP T sc lo lo' && ckP T sc hi hi'
    | _ => false
  | .call x n _ es, w => match w with
    | .Call (.Name y _) vs [] _ => x == y && isGl sc x && nmOk x && vs.length == n && ckEs T sc es vs
    | _ => false
  | .bi f es, w => match w with
    | .Call (.Name y _) vs [] _ => biName f == y && isGl sc (biName f) && T.fr.contains (biName f) && !vs.isEmpty && ckEs T sc es vs
    | _ => false
  | .isi a t, w => match w with
    | .Call (.Name y _) [e, .Name z _] [] _ => y == "isinstance" && isGl sc "isinstance" && T.fr.contains "isinstance" && z == tyNm t && isGl sc (tyNm t) && T.fr.contains (tyNm t) && (ckE T sc a e && notStar e)
    | _ => false
  | .isi2 a t u, w => match w with
    | .Call (.Name y _) [e, .Tuple [.Name z _, .Name z' _] _ _] [] _ => y == "isinstance" && isGl sc "isinstance" && T.fr.contains "isinstance" && z == tyNm t && isGl sc (tyNm t) && T.fr.contains (tyNm t) && z' == tyNm u && isGl sc (tyNm u) && T.fr.contains (tyNm u) && (ckE T sc a e && notStar e)
    | _ => false
  | .meth m o es, w => match w with
    | .Call (.Attribute ob nm apos) vs [] cpos => nm == meName m && apos.endLine == cpos.line && notCall ob && !vs.isEmpty && decide (vs.length < 20) && ckE T sc o ob && ckEs T sc es vs
    | _ => false
  | .app i a, w => match w with
    | .Call (.Attribute (.Name x _) nm apos) [e] [] cpos => nm == "append" && apos.endLine == cpos.line && T.N[i]? == some x && isVis sc x && nmOk x && (ckE T sc a e && notStar e)
    | _ => false
  | .pop i, w => match w with
    | .Call (.Attribute (.Name x _) nm apos) [] [] cpos => nm == "pop" && apos.endLine == cpos.line && T.N[i]? == some x && isVis sc x && nmOk x
    | _ => false
  | .pop0 i, w => match w with
    | .Call (.Attribute (.Name x _) nm apos) [.Constant c _ _] [] cpos => nm == "pop" && apos.endLine == cpos.line && T.N[i]? == some x && isVis sc x && nmOk x && c == .int 0
    | _ => false
  | .comp own elt t it ifs, w => match w with
    | .ListComp e [⟨te, ie, fs, 0⟩] scope _ => ckI T sc it te ie && notSet ie && blkC T.N sc scope own && ckTg T (relS scope sc) (blkFs scope sc) t te && (slTg t).all (own.map (·.2)).contains && ckIf T (relS scope sc) ifs fs && ckE T (relS scope sc) elt e
    | _ => false
  | .fstr es, w => match w with
    | .JoinedStr vs _ => ckEs T sc es vs && decide (2 ≤ vs.length)
    | _ => false
  | .fmt a, w => match w with
    | .FormattedValue e (-1) none _ => ckE T sc a e
    | _ => false
def ckEs (T : CkCx) (sc : Scope) : CEs → List Expr → Bool
  | .nil, w => match w with
    | [] => true
    | _ => false
  | .cons e r, w => match w with
    | x :: xs => ckE T sc e x && notStar x && ckEs T sc r xs
    | _ => false
def ckP (T : CkCx) (sc : Scope) : CEs → Option Expr → Bool
  | .nil, w => match w with
    | none => true
    | _ => false
  | .cons e _, w => match w with
    | some x => ckE T sc e x
    | _ => false
def ckIf (T : CkCx) (sc : Scope) : CEs → List Expr → Bool
  | .nil, w => match w with
    | [] => true
    | _ => false
  | .cons e _, w => match w with
    | [x] => notIte e && ckE T sc e x
    | _ => false
def ckI (T : CkCx) (sc : Scope) : CI → Expr → Expr → Bool
  | .seq e, _, x => ckE T sc e x
  | .rng1 a, _, w => match w with
    | .Call (.Name y _) [x] [] _ => y == "range" && isGl sc "range" && T.fr.contains "range" && ckE T sc a x && notStar x
    | _ => false
  | .rng2 a b, _, w => match w with
    | .Call (.Name y _) [x, z] [] _ => y == "range" && isGl sc "range" && T.fr.contains "range" && ckE T sc a x && ckE T sc b z && notStar x && notStar z
    | _ => false
  | .enum e, t, w => match t, w with
    | .Tuple _ _ _, .Call (.Name y _) [x] [] _ => y == "enumerate" && isGl sc "enumerate" && T.fr.contains "enumerate" && ckE T sc e x && notStar x
    | _, _ => false
  | .zip a b, t, w => match t, w with
    | .Tuple _ _ _, .Call (.Name y _) [x, z] [] _ => y == "zip" && isGl sc "zip" && T.fr.contains "zip" && ckE T sc a x && ckE T sc b z && notStar x && notStar z
    | _, _ => false
def ckTg (T : CkCx) (sc : Scope) (fs : Str → Bool) : Tg → Expr → Bool
  | .name i, w => match w with
    | .Name x _ => T.N[i]? == some x && isLoc sc x && fs x
    | _ => false
  | .sub i k, w => match w with
    | .Subscript (.Name x _) e _ => T.N[i]? == some x && isVis sc x && nmOk x && ckE T sc k e && quiet k && notSlice e
    | _ => false
  | .tup ts, w => match w with
    | .Tuple vs _ _ => ckTgs T sc fs ts vs
    | _ => false
def ckTgs (T : CkCx) (sc : Scope) (fs : Str → Bool) : Tgs → List Expr → Bool
  | .nil, w => match w with
    | [] => true
    | _ => false
  | .cons t r, w => match w with
    | x :: xs => ckTg T sc fs t x && notStar x && ckTgs T sc fs r xs
    | _ => false
end
mutual
def needE (C0 C : Str → Nat → FSem → Prop) (G : Str → D → Prop) : CE → Prop
  | .glob x d => G x d
  | .bin _ a b => needE C0 C G a ∧ needE C0 C G b
  | .neg a => needE C0 C G a
  | .cmp _ a b => needE C0 C G a ∧ needE C0 C G b
  | .chain _ _ a b c => needE C0 C G a ∧ needE C0 C G b ∧ needE C0 C G c
  | .bool _ es => needEs C0 C G es
  | .not a => needE C0 C G a
  | .ite c a b => needE C0 C G c ∧ needE C0 C G a ∧ needE C0 C G b
  | .tup es => needEs C0 C G es
  | .lst es => needEs C0 C G es
  | .idx a i => needE C0 C G a ∧ needE C0 C G i
  | .slc a lo hi => needE C0 C G a ∧ needEs C0 C G lo ∧ needEs C0 C G hi
  | .call x n g es => C x n g ∧ needEs C0 C G es
  | .bi _ es => needEs C0 C G es
  | .isi a _ => needE C0 C G a
  | .isi2 a _ _ => needE C0 C G a
  | .meth _ o es => needE C0 C G o ∧ needEs C0 C G es
  | .app _ a => needE C0 C G a
  | .comp _ elt t it ifs => needI C0 C G it ∧ needTg C0 C0 G t ∧ needEs C0 C0 G ifs ∧ needE C0 C0 G elt
  | .fstr es => needEs C0 C G es
  | .fmt a => needE C0 C G a
  | _ => True
def needEs (C0 C : Str → Nat → FSem → Prop) (G : Str → D → Prop) : CEs → Prop
  | .nil => True
  | .cons e r => needE C0 C G e ∧ needEs C0 C G r
def needI (C0 C : Str → Nat → FSem → Prop) (G : Str → D → Prop) : CI → Prop
  | .seq e => needE C0 C G e
  | .rng1 a => needE C0 C G a
  | .rng2 a b => needE C0 C G a ∧ needE C0 C G b
  | .enum e => needE C0 C G e
  | .zip a b => needE C0 C G a ∧ needE C0 C G b
def needTg (C0 C : Str → Nat → FSem → Prop) (G : Str → D → Prop) : Tg → Prop
  | .name _ => True
  | .sub _ k => needE C0 C G k
  | .tup ts => needTgs C0 C G ts
def needTgs (C0 C : Str → Nat → FSem → Prop) (G : Str → D → Prop) : Tgs → Prop
  | .nil => True
  | .cons t r => needTg C0 C G t ∧ needTgs C0 C G r
end
def isComp : Expr → Bool
  | .ListComp .. | .SetComp .. | .DictComp .. => true
  | _ => false
/-- whether a comprehension's value goes to the name at once -/
def swaps (sc : Scope) (v : Expr) (x : Str) (px : Pos) : Bool := match v with
  | .ListComp _ _ s _ => sc.names.lookup x == some .local && px.line == v.pos.line && !(s.names.any fun (n, k) => n == x && (k == .local || k == .cell))
  | _ => false
def isTup : Expr → Bool
  | .Tuple .. => true
  | _ => false
def isSub : Expr → Bool
  | .Subscript .. => true
  | _ => false
/-- targets of which the stores stay in their order -/
def plainTg (sc : Scope) (tg v : Expr) : Bool := match tg, v with
  | .Tuple ts _ _, .Tuple vs _ _ => !(ts.length == 2 || ts.length == 3) || vs.length != ts.length || (ts.any fun | .Name x _ => !(sc.names.lookup x == some .local) | _ => true)
  | _, _ => true
mutual
def ckS (T : CkCx) (sc : Scope) : CS → Stmt → Bool
  | .set i e, w => match w with
    | .Assign [.Name x px] v _ => T.N[i]? == some x && isLoc sc x && ckE T sc e v && (!isComp v || swaps sc v x px)
    | _ => false
  | .own i e, w => match w with
    | .Assign [.Name x px] v _ => T.N[i]? == some x && isLoc sc x && ckE T sc e v && (!isComp v || swaps sc v x px)
    | _ => false
  | .asg t e, w => match w with
    | .Assign [tg] v _ => ckTg T sc (fun _ => true) t tg && ckE T sc e v && notStar tg && plainTg sc tg v && (isTup tg || isSub tg)
    | _ => false
  | .par i j a b, w => match w with
    | .Assign [.Tuple [.Name x px, .Name y py] _ _] (.Tuple [v, z] _ _) _ => T.N[i]? == some x && T.N[j]? == some y && sc.names.lookup x == some .local && sc.names.lookup y == some .local && !(x == y) && px.line == py.line && ckE T sc a v && ckE T sc b z && notStar v && notStar z && !([v, z].all (foldedForSure 8)) && !([v, z].all (constantsAlone 8))
    | _ => false
  | .expr e, w => match w with
    | .Expr v _ => ckE T sc e v && !isComp v
    | _ => false
  | .ret e, w => match w with
    | .Return (some v) _ => ckE T sc e v
    | _ => false
  | .retN, w => match w with
    | .Return none _ => true
    | _ => false
  | .if_ c a b, w => match w with
    | .If t x y _ => notIte c && ckE T sc c t && ckSs T sc a x && ckSs T sc b y
    | _ => false
  | .for_ t it body, w => match w with
    | .For te ie bs [] _ => ckI T sc it te ie && notSet ie && ckTg T sc (fun _ => true) t te && ckSs T sc body bs
    | _ => false
  | .while_ c body, w => match w with
    | .While t bs [] _ => notIte c && ckE T sc c t && ckSs T sc body bs
    | _ => false
  | .pass, w => match w with
    | .Pass _ => true
    | _ => false
  | .brk, w => match w with
    | .Break _ => true
    | _ => false
  | .cnt, w => match w with
    | .Continue _ => true
    | _ => false
  | .never, _ => true
def ckSs (T : CkCx) (sc : Scope) : CSs → List Stmt → Bool
  | .nil, w => match w with
    | [] => true
    | _ => false
  | .cons s r, w => match w with
    | x :: xs => ckS T sc s x && ckSs T sc r xs
    | _ => false
end
mutual
def needS (C0 C : Str → Nat → FSem → Prop) (G : Str → D → Prop) : CS → Prop
  | .set _ e => needE C0 C G e
  | .own _ e => needE C0 C G e
  | .asg t e => needTg C0 C G t ∧ needE C0 C G e
  | .par _ _ a b => needE C0 C G a ∧ needE C0 C G b
  | .expr e => needE C0 C G e
  | .ret e => needE C0 C G e
  | .if_ c a b => needE C0 C G c ∧ needSs C0 C G a ∧ needSs C0 C G b
  | .for_ t it body => needTg C0 C G t ∧ needI C0 C G it ∧ needSs C0 C G body
  | .while_ c body => needE C0 C G c ∧ needSs C0 C G body
  | _ => True
def needSs (C0 C : Str → Nat → FSem → Prop) (G : Str → D → Prop) : CSs → Prop
  | .nil => True
  | .cons s r => needS C0 C G s ∧ needSs C0 C G r
end
end Mi
set_option Elab.async false
set_option linter.all false
set_option maxRecDepth 100000
set_option autoImplicit false
/-! MiD: what the checker lets pass is served by the rules: expressions -/
namespace Mi
open PySem PySem.Spec L2
open PyProof.Rows (envOfC)

/-- how a call of a def of the module goes -/
structure CallRule (X : Cx) (Z : ZT) (x : Str) (n : Nat) (g : FSem) : Prop where
  some : ∀ (p pos : Pos) (e : Expr) (es : List Expr) (fs : List (M RV)), Gl X x → fs.length = n → PA X (e :: es) (tAs X.K Z (evAll fs)) → (x == ("__debug__" : Str)) = false → starEach (e :: es) X.env = (false, eval e X.env) :: starEach es X.env → (backTo pos (starEach es X.env)).any (·.1) = false →
    PE X (.Call (.Name x p) (e :: es) [] pos) (tE X.K Z (evUser g fs))
  none : ∀ (p pos : Pos), Gl X x → n = 0 → (x == ("__debug__" : Str)) = false → PE X (.Call (.Name x p) [] [] pos) (tE X.K Z (evUser g []))
structure Good (T : CkCx) (C0 C : Str → Nat → FSem → Prop) (G : Str → D → Prop) (sc : Scope) (X : Cx) (Z : ZT) : Prop where
  N : X.N = T.N
  nd : X.N.Nodup
  scope : X.env.scope = sc
  kind : sc.kind = .function
  calm : X.calm = true
  un : X.A.units + 65 < cLine
  fr : ∀ y, T.fr.contains y = true → X.mg y = none
  call0 : ∀ x n g, C0 x n g → NoExc g ∧ ∃ k, Room k X.A ∧ FnHas X.prog X.w X.K X.mg X.base k x n g
  call : ∀ x n g, C x n g → CallRule X Z x n g
  glob : ∀ x d, G x d → ∃ v u, X.mg x = some u ∧ RelV v u ∧ ∀ F, Dp X.K F v d

theorem rule_of {X : Cx} {Z : ZT} {x : Str} {n k : Nat} {g : FSem} (F : FnHas X.prog X.w X.K X.mg X.base k x n g) (hx : NoExc g) (hr : Room k X.A) : CallRule X Z x n g :=
  ⟨fun p pos e es fs hg hn ha hdb he hpl => me_call F hx hr hg hn ha hdb he hpl, fun p pos hg hn hdb => by subst hn; exact me_call0 F hx hr hg hdb⟩

abbrev noZ : ZT := fun _ _ _ => False
section
variable {T : CkCx} {C0 C : Str → Nat → FSem → Prop} {G : Str → D → Prop} {sc : Scope} {X : Cx} {Z : ZT}
theorem Good.blk {s : Shared} {H : Hp} {scope : Scope} {Cd : Addr} {cl : List (Str × Addr)} {fp : List Addr} {Z' : ZT} (g : Good T C0 C G sc X Z) (hk : scope.kind = .function) : Good T C0 C0 G (relS scope sc) (X.blk s H scope (compEnvC scope cl Cd X.env) fp) Z' where
  N := g.N
  nd := g.nd
  scope := by rw [← g.scope]; rfl
  kind := hk
  calm := g.calm
  un := g.un
  fr := g.fr
  call0 := g.call0
  call := fun x n f h => by
    obtain ⟨hx, k, hr, F⟩ := g.call0 x n f h
    exact rule_of (X := X.blk s H scope (compEnvC scope cl Cd X.env) fp) F hx hr
  glob := g.glob
theorem vis_of {x : Str} (h : isVis sc x = true) : Vis sc x := by
  unfold isVis at h
  split at h
  · rename_i e; exact .inl e
  · rename_i e; exact .inr (.inl e)
  · rename_i e; exact .inr (.inr e)
  · cases h
theorem loc_of {x : Str} (h : isLoc sc x = true) : Loc sc x := by
  unfold isLoc at h
  split at h
  · rename_i e; exact .inl e
  · rename_i e; exact .inr e
  · cases h
theorem gl_of {x : Str} (hs : X.env.scope = sc) (h : isGl sc x = true) : Gl X x := by
  unfold isGl at h
  have h2 := eq_of_beq h
  show X.env.scope.names.lookup x = _
  rw [hs]
  exact h2
theorem nm_of {x : Str} (h : nmOk x = true) : (x == ("__debug__" : Str)) = false ∧ (x == ("__classdict__" : Str)) = false := by
  unfold nmOk at h
  simpa using h
theorem star_of {e : Expr} {es : List Expr} {env : Env} (h : notStar e = true) : starEach (e :: es) env = (false, eval e env) :: starEach es env := by
  cases e <;> first | rfl | cases h
theorem asg_of {e : Expr} {es : List Expr} {env : Env} (h : notStar e = true) : assignEach (e :: es) env = (false, assign e env) :: assignEach es env := by
  cases e <;> first | rfl | cases h
theorem plainIx_of {e : Expr} (h : notSlice e = true) : PlainIx e := by
  cases e <;> first | (exact fun _ _ => rfl) | cases h
theorem base_of {o : Expr} {nm : Str} {env : Env} (h : notCall o = true) : attributeBase o nm env (eval o env) = eval o env := by
  cases o <;> first | rfl | cases h
theorem set_of {e : Expr} {env : Env} (h : notSet e = true) (x : Value) : foldedSetIterable e env x = pure x := by
  cases e <;> first | rfl | cases h
theorem asg_sub {o i : Expr} {pos : Pos} {env : Env} {v : Value} (h : notSlice i = true) : assign (.Subscript o i pos) env v = (do
    let ov ← holding [v] (eval o env)
    let iv ← holding [v, ov] (eval i env)
    standAt pos
    holding [v, ov, iv] (setItem ov iv v)
    release [v, ov, iv] []) := by
  cases i <;> first | rfl | cases h
theorem op1_neg {K : PySem.W.Frag} : Op1 K (rU fun i => .int (-i)) gNeg := by
  intro F H v1 d1 d fr Q s t e q
  unfold gNeg at e
  split at e
  · cases e
    exact ⟨_, top_int t, q _ _ (OpAft.scal (.int _))⟩
  · cases e
theorem fin_noexc {en en' : Fr} {o : Option (D × Bool)} {y : Exc} : fin en o ≠ .exc y en' := fun h => by
  cases o with
  | none => cases h
  | some p => obtain ⟨d, fr⟩ := p; cases h
theorem quiet_bin {fa fb : M RV} {g : G2} (ha : ∀ en y en', fa en ≠ .exc y en') (hb : ∀ en y en', fb en ≠ .exc y en') : ∀ en y en', evBin g fa fb en ≠ .exc y en' := fun en y en' h => by
  unfold evBin Res.bind at h
  cases e1 : fa en with
  | exc z en1 => exact ha _ _ _ e1
  | err => rw [e1] at h; cases h
  | ok r en1 =>
    rw [e1] at h
    simp only at h
    cases e2 : fb en1 with
    | exc z en2 => exact hb _ _ _ e2
    | err => rw [e2] at h; cases h
    | ok r2 en2 =>
      rw [e2] at h
      simp only at h
      split at h
      · exact fin_noexc h
      · cases h
theorem quiet_un {fa : M RV} {g : G1} (ha : ∀ en y en', fa en ≠ .exc y en') : ∀ en y en', evUn g fa en ≠ .exc y en' := fun en y en' h => by
  unfold evUn Res.bind at h
  cases e1 : fa en with
  | exc z en1 => exact ha _ _ _ e1
  | err => rw [e1] at h; cases h
  | ok r en1 =>
    rw [e1] at h
    simp only at h
    split at h
    · exact fin_noexc h
    · cases h
theorem quiet_ok : ∀ (c : CE), quiet c = true → ∀ en y en', evE c en ≠ .exc y en'
  | .var i, _, en, y, en', h => by
    unfold evE evVar at h
    split at h <;> cases h
  | .lit c, _, en, y, en', h => by
    unfold evE evLit at h
    split at h <;> cases h
  | .glob x d, _, en, y, en', h => by cases h
  | .bin o a b, q, en, y, en', h => by
    unfold quiet at q
    rw [Bool.and_eq_true] at q
    unfold evE at h
    cases e0 : binG o with
    | none => rw [e0] at h; cases h
    | some g =>
      rw [e0] at h
      exact quiet_bin (fun _ _ _ => quiet_ok a q.1 _ _ _) (fun _ _ _ => quiet_ok b q.2 _ _ _) _ _ _ h
  | .idx a b, q, en, y, en', h => by
    unfold quiet at q
    rw [Bool.and_eq_true] at q
    unfold evE at h
    exact quiet_bin (fun _ _ _ => quiet_ok a q.1 _ _ _) (fun _ _ _ => quiet_ok b q.2 _ _ _) _ _ _ h
  | .neg a, q, en, y, en', h => by
    unfold quiet at q
    unfold evE at h
    exact quiet_un (fun _ _ _ => quiet_ok a q _ _ _) _ _ _ h
end
end Mi
set_option Elab.async false
set_option linter.all false
set_option maxRecDepth 100000
set_option autoImplicit false
/-! MiE: the checker's word for expressions -/
namespace Mi
open PySem PySem.Spec L2
open PyProof.Rows (envOfC)

theorem evB_blV (k : Bool) : ∀ (fs : List (M RV)) (en : Fr), evB (evBlV k fs) en = evBl k (fs.map evB) en
  | [], en => rfl
  | [t], en => by
    unfold evBlV
    show evB (fun en => (evB t en).bind fun c en1 => .ok (.val (.bool c) false) en1) en = evB t en
    generalize evB t = u
    unfold evB Res.bind
    simp only
    cases u en <;> rfl
  | t :: u :: r, en => by
    show evB (fun en => (evB t en).bind fun c en1 => if c = k then evBlV k (u :: r) en1 else .ok (.val (.bool (!k)) false) en1) en = (evB t en).bind fun c en1 => if c = k then evBl k ((u :: r).map evB) en1 else .ok (!k) en1
    have ih := evB_blV k (u :: r)
    generalize evB t = w
    conv => lhs; unfold evB
    unfold Res.bind
    simp only
    cases w en with
    | err => rfl
    | exc x en1 => rfl
    | ok c en1 =>
      simp only
      by_cases h : c = k
      · rw [if_pos h, if_pos h]
        have := ih en1
        unfold evB Res.bind at this
        exact this
      · rw [if_neg h, if_neg h]
        rfl
theorem and4 {a b c d : Bool} (h : (a && b && c && d) = true) : a = true ∧ b = true ∧ c = true ∧ d = true := by
  simpa [Bool.and_eq_true, and_assoc] using h
section
variable {T : CkCx} {C0 : Str → Nat → FSem → Prop} {G : Str → D → Prop}
theorem backTo_plain {pos : Pos} {es : CEs} {C : Str → Nat → FSem → Prop} {sc sc' : Scope} {env : Env} : ∀ (es : CEs) {xs : List Expr}, ckEs T sc es xs = true → (backTo pos (starEach xs env)).any (·.1) = false ∧ (backTo pos (starEach xs env)).all (fun x => !x.1) = true
  | .nil, xs, h => by
    unfold ckEs at h
    split at h
    · exact ⟨rfl, rfl⟩
    · cases h
  | .cons e r, xs, h => by
    unfold ckEs at h
    split at h
    · rename_i x xs'
      simp only [Bool.and_eq_true] at h
      obtain ⟨⟨h1, h2⟩, h3⟩ := h
      have ih := backTo_plain (pos := pos) (es := es) (C := C) (sc' := sc') (env := env) r h3
      rw [star_of h2]
      refine ⟨?_, ?_⟩
      · show (false || (backTo pos (starEach xs' env)).any (·.1)) = false
        rw [ih.1]; rfl
      · show (true && (backTo pos (starEach xs' env)).all (fun x => !x.1)) = true
        rw [ih.2]; rfl
    · cases h
theorem pt_val {X : Cx} {Z : ZT} {f : M RV} {e : Expr} {P : Prop} (h : PE X e (tE X.K Z f)) (he : ∀ whole, isTrue e X.env whole = (do let v ← whole; standAt e.pos; holding [v] (truthy v))) : PE X e (tE X.K Z f) ∧ (P → PT X e (tT X.K Z (evB f))) := ⟨h, fun _ => me_val h he⟩
mutual
theorem sE : ∀ (c : CE) {C : Str → Nat → FSem → Prop} {sc : Scope} {X : Cx} {Z : ZT} {e : Expr}, Good T C0 C G sc X Z → needE C0 C G c → ckE T sc c e = true → PE X e (tE X.K Z (evE c)) ∧ (notIte c = true → PT X e (tT X.K Z (evB (evE c))))
  | .var i, C, sc, X, Z, e, gd, nd, h => by
    unfold ckE at h
    split at h
    · simp only [Bool.and_eq_true, beq_iff_eq] at h
      obtain ⟨⟨h1, h2⟩, h3⟩ := h
      exact pt_val (me_var (by rw [gd.N]; exact h1) (by rw [gd.scope]; exact vis_of h2) (nm_of h3).1 (nm_of h3).2) fun _ => rfl
    · cases h
  | .take i, C, sc, X, Z, e, gd, nd, h => by
    unfold ckE at h
    split at h
    · simp only [Bool.and_eq_true, beq_iff_eq] at h
      obtain ⟨⟨h1, h2⟩, h3⟩ := h
      exact pt_val (me_take (by rw [gd.N]; exact h1) (by rw [gd.scope]; exact vis_of h2) (nm_of h3).1 (nm_of h3).2) fun _ => rfl
    · cases h
  | .frz i, C, sc, X, Z, e, gd, nd, h => by
    unfold ckE at h
    split at h
    · simp only [Bool.and_eq_true, beq_iff_eq] at h
      obtain ⟨⟨h1, h2⟩, h3⟩ := h
      exact pt_val (me_frz (by rw [gd.N]; exact h1) (by rw [gd.scope]; exact vis_of h2) (nm_of h3).1 (nm_of h3).2) fun _ => rfl
    · cases h
  | .lit c, C, sc, X, Z, e, gd, nd, h => by
    unfold ckE at h
    split at h
    · rw [beq_iff_eq] at h
      subst h
      exact pt_val me_lit fun _ => rfl
    · cases h
  | .glob y d, C, sc, X, Z, e, gd, nd, h => by
    unfold ckE at h
    split at h
    · simp only [Bool.and_eq_true, beq_iff_eq] at h
      obtain ⟨⟨h1, h2⟩, h3⟩ := h
      subst h1
      unfold needE at nd
      obtain ⟨v, u, e1, r, q⟩ := gd.glob _ _ nd
      exact pt_val (me_glob (gl_of gd.scope h2) e1 r (nm_of h3).1 q) fun _ => rfl
    · cases h
  | .bin o a b, C, sc, X, Z, e, gd, nd, h => by
    unfold ckE at h
    split at h
    · simp only [Bool.and_eq_true, beq_iff_eq] at h
      obtain ⟨⟨h1, h2⟩, h3⟩ := h
      subst h1
      unfold needE at nd
      refine pt_val ?_ fun _ => rfl
      unfold evE
      cases e0 : binG o with
      | none => exact ⟨fun pins s σ H Q I ⟨b, en, oa, sim, z⟩ => z.elim⟩
      | some g => exact me_binop e0 (sE a gd nd.1 h2).1 (sE b gd nd.2 h3).1
    · cases h
  | .neg a, C, sc, X, Z, e, gd, nd, h => by
    unfold ckE at h
    split at h
    · unfold needE at nd
      exact pt_val (me_un un_neg op1_neg (sE a gd nd h).1) fun _ => rfl
    · cases h
  | .cmp o a b, C, sc, X, Z, e, gd, nd, h => by
    unfold ckE at h
    split at h
    · simp only [Bool.and_eq_true, beq_iff_eq, Bool.not_eq_true'] at h
      obtain ⟨⟨⟨h1, h2⟩, h3⟩, h4⟩ := h
      subst h1
      unfold needE at nd
      obtain ⟨r, o1, o2⟩ := cmp_ok gd.un o
      exact ⟨me_cmp o1 o2 (sE a gd nd.1 h2).1 (sE b gd nd.2 h3).1 h4, fun _ => me_cmpT o1 o2 (sE a gd nd.1 h2).1 (sE b gd nd.2 h3).1 h4⟩
    · cases h
  | .chain o o' a b c, C, sc, X, Z, e, gd, nd, h => by
    unfold ckE at h
    split at h
    · simp only [Bool.and_eq_true, beq_iff_eq, Bool.not_eq_true'] at h
      obtain ⟨⟨⟨⟨⟨h1, h1'⟩, h2⟩, h3⟩, h5⟩, h4⟩ := h
      subst h1 h1'
      unfold needE at nd
      have pa := (sE a gd nd.1 h2).1
      have pb := (sE b gd nd.2.1 h3).1
      have pc := (sE c gd nd.2.2 h5).1
      unfold evE
      cases e0 : cmpI o with
      | none => exact ⟨⟨fun pins s σ H Q I ⟨b, en, oa, sim, z⟩ => z.elim⟩, fun _ => ⟨fun pins s σ H Q I ⟨b, en, oa, sim, z⟩ => z.elim⟩⟩
      | some p => cases e1 : cmpI o' with
        | none => exact ⟨⟨fun pins s σ H Q I ⟨b, en, oa, sim, z⟩ => z.elim⟩, fun _ => ⟨fun pins s σ H Q I ⟨b, en, oa, sim, z⟩ => z.elim⟩⟩
        | some p' => exact ⟨me_chain (op_cmpI e0) (op_cmpI e1) pa pb pc h4, fun _ => me_chainT (op_cmpI e0) (op_cmpI e1) pa pb pc h4⟩
    · cases h
  | .bool k es, C, sc, X, Z, e, gd, nd, h => by
    unfold ckE at h
    split at h
    · rename_i op vs pos
      simp only [Bool.and_eq_true, Bool.not_eq_true'] at h
      obtain ⟨⟨⟨h1, h2⟩, h3⟩, h4⟩ := h
      unfold needE at nd
      obtain ⟨p1, p2⟩ := (sEs es gd nd h3).2.2.2 h2 (by rintro rfl; cases h4) op k pos h1
      exact ⟨p1, fun _ => pt_imp p2.pt fun σ H Q z => tT_imp (fun en => evB_blV k (evEs es) en) z⟩
    · cases h
  | .not a, C, sc, X, Z, e, gd, nd, h => by
    unfold ckE at h
    split at h
    · simp only [Bool.and_eq_true] at h
      unfold needE at nd
      obtain ⟨p1, p2⟩ := sE a gd nd h.2
      exact ⟨me_not p1, fun _ => me_notT (p2 h.1)⟩
    · cases h
  | .ite c a b, C, sc, X, Z, e, gd, nd, h => by
    unfold ckE at h
    split at h
    · simp only [Bool.and_eq_true] at h
      obtain ⟨⟨⟨h1, h2⟩, h3⟩, h4⟩ := h
      unfold needE at nd
      exact ⟨me_ite ((sE c gd nd.1 h2).2 h1) (sE a gd nd.2.1 h3).1 (sE b gd nd.2.2 h4).1, fun z => by cases z⟩
    · cases h
  | .tup es, C, sc, X, Z, e, gd, nd, h => by
    unfold ckE at h
    split at h
    · simp only [Bool.and_eq_true, decide_eq_true_eq] at h
      unfold needE at nd
      obtain ⟨p1, p2, p3, _⟩ := sEs es gd nd h.1
      exact pt_val (me_tup p1 (by rw [p3]; exact Nat.le_of_lt (small1000 h.2))) fun _ => rfl
    · cases h
  | .lst es, C, sc, X, Z, e, gd, nd, h => by
    unfold ckE at h
    split at h
    · simp only [Bool.and_eq_true, decide_eq_true_eq] at h
      unfold needE at nd
      obtain ⟨p1, p2, p3, _⟩ := sEs es gd nd h.1
      exact pt_val (me_lst p1 (by rw [p3]; exact Nat.le_of_lt (small1000 h.2))) fun _ => rfl
    · cases h
  | .idx a i, C, sc, X, Z, e, gd, nd, h => by
    unfold ckE at h
    split at h
    · simp only [Bool.and_eq_true] at h
      obtain ⟨⟨h1, h2⟩, h3⟩ := h
      unfold needE at nd
      exact pt_val (me_ix ix_seq op2_idx (sE a gd nd.1 h1).1 (sE i gd nd.2 h2).1 (plainIx_of h3)) fun _ => rfl
    · cases h
  | .slc a lo hi, C, sc, X, Z, e, gd, nd, h => by
    unfold ckE at h
    split at h
    · simp only [Bool.and_eq_true] at h
      obtain ⟨⟨h1, h2⟩, h3⟩ := h
      unfold needE at nd
      exact pt_val (me_slice slr_sl opS_sl (sE a gd nd.1 h1).1 (sP lo gd nd.2.1 h2) (sP hi gd nd.2.2 h3)) fun _ => rfl
    · cases h
  | .call x n g es, C, sc, X, Z, e, gd, nd, h => by
    unfold ckE at h
    split at h
    · rename_i y p vs pos
      simp only [Bool.and_eq_true, beq_iff_eq] at h
      obtain ⟨⟨⟨⟨h1, h2⟩, h3⟩, h4⟩, h5⟩ := h
      subst h1
      unfold needE at nd
      obtain ⟨p1, p2, p3, _⟩ := sEs es gd nd.2 h5
      have R := gd.call _ _ _ nd.1
      refine pt_val ?_ fun _ => rfl
      unfold evE
      cases es with
      | nil =>
        unfold ckEs at h5
        split at h5
        · exact R.none p pos (gl_of gd.scope h2) h4.symm (nm_of h3).1
        · cases h5
      | cons e r =>
        have h5' := h5
        unfold ckEs at h5
        split at h5
        · rename_i z zs
          simp only [Bool.and_eq_true] at h5
          exact R.some p pos _ _ _ (gl_of gd.scope h2) (p3.trans h4) p1 (nm_of h3).1 (star_of h5.1.2) (backTo_plain (es := r) (C := C) (sc' := sc) r h5.2).1
        · cases h5
    · cases h
  | .bi f es, C, sc, X, Z, e, gd, nd, h => by
    unfold ckE at h
    split at h
    · rename_i y p vs pos
      simp only [Bool.and_eq_true, beq_iff_eq, Bool.not_eq_true'] at h
      obtain ⟨⟨⟨⟨h1, h2⟩, h3⟩, h4⟩, h5⟩ := h
      subst h1
      unfold needE at nd
      obtain ⟨p1, p2, p3, _⟩ := sEs es gd nd h5
      refine pt_val ?_ fun _ => rfl
      unfold evE
      cases es with
      | nil =>
        unfold ckEs at h5
        split at h5
        · cases h4
        · cases h5
      | cons e r =>
        unfold ckEs at h5
        split at h5
        · rename_i z zs
          simp only [Bool.and_eq_true] at h5
          exact me_bi gd.calm (gl_of gd.scope h2) (gd.fr _ h3) p1 (star_of h5.1.2) (backTo_plain (es := r) (C := C) (sc' := sc) r h5.2).1
        · cases h5
    · cases h
  | .isi a t, C, sc, X, Z, e, gd, nd, h => by
    unfold ckE at h
    split at h
    · simp only [Bool.and_eq_true, beq_iff_eq] at h
      obtain ⟨⟨⟨⟨⟨⟨h1, h2⟩, h3⟩, h4⟩, h5⟩, h6⟩, h7⟩ := h
      subst h1 h4
      unfold needE at nd
      refine pt_val (me_isi (gl_of gd.scope h2) (gd.fr _ h3) (gl_of gd.scope h5) (gd.fr _ h6) (sE a gd nd h7.1).1 (star_of h7.2)) fun _ => rfl
    · cases h
  | .isi2 a t u, C, sc, X, Z, e, gd, nd, h => by
    unfold ckE at h
    split at h
    · simp only [Bool.and_eq_true, beq_iff_eq] at h
      obtain ⟨⟨⟨⟨⟨⟨⟨⟨⟨h1, h2⟩, h3⟩, h4⟩, h5⟩, h6⟩, h8⟩, h9⟩, h10⟩, h7⟩ := h
      subst h1 h4 h8
      unfold needE at nd
      refine pt_val (me_isi2 (gl_of gd.scope h2) (gd.fr _ h3) (gl_of gd.scope h5) (gd.fr _ h6) (gl_of gd.scope h9) (gd.fr _ h10) (sE a gd nd h7.1).1 (star_of h7.2)) fun _ => rfl
    · cases h
  | .meth m o es, C, sc, X, Z, e, gd, nd, h => by
    unfold ckE at h
    split at h
    · simp only [Bool.and_eq_true, beq_iff_eq, Bool.not_eq_true', decide_eq_true_eq] at h
      obtain ⟨⟨⟨⟨⟨⟨h1, h2⟩, h3⟩, h4⟩, h5⟩, h6⟩, h7⟩ := h
      subst h1
      unfold needE at nd
      obtain ⟨p1, p2, p3, _⟩ := sEs es gd nd.2 h7
      refine pt_val ?_ fun _ => rfl
      unfold evE
      cases es with
      | nil =>
        unfold ckEs at h7
        split at h7
        · cases h4
        · cases h7
      | cons e r =>
        have h7' := h7
        unfold ckEs at h7
        split at h7
        · rename_i z zs
          simp only [Bool.and_eq_true] at h7
          refine me_methS gd.calm gd.un (sE o gd nd.1 h6).1 p1 ⟨base_of h3, beq_iff_eq.mpr h2, ?_, fun e' r' e0 => ?_⟩
          · rw [(backTo_plain (es := r) (C := C) (sc' := sc) _ h7').2]
            simp
            exact ⟨fun a b z => (by cases z), by simp at h5; omega⟩
          · cases e0
            exact ⟨star_of h7.1.2, (backTo_plain (es := r) (C := C) (sc' := sc) r h7.2).1⟩
        · cases h7
    · cases h
  | .app i a, C, sc, X, Z, e, gd, nd, h => by
    unfold ckE at h
    split at h
    · simp only [Bool.and_eq_true, beq_iff_eq] at h
      obtain ⟨⟨⟨⟨⟨h1, h2⟩, h3⟩, h4⟩, h5⟩, h6⟩ := h
      subst h1
      unfold needE at nd
      refine pt_val (me_app (by rw [gd.N]; exact h3) (by rw [gd.scope]; exact vis_of h4) (nm_of h5).1 (nm_of h5).2 (sE a gd nd h6.1).1 ⟨rfl, beq_iff_eq.mpr h2, ?_, fun e' r' e0 => ?_⟩) fun _ => rfl
      · rw [star_of h6.2]; rfl
      · cases e0
        exact ⟨star_of h6.2, rfl⟩
    · cases h
  | .pop i, C, sc, X, Z, e, gd, nd, h => by
    unfold ckE at h
    split at h
    · simp only [Bool.and_eq_true, beq_iff_eq] at h
      obtain ⟨⟨⟨⟨h1, h2⟩, h3⟩, h4⟩, h5⟩ := h
      subst h1
      exact pt_val (me_pop (by rw [gd.N]; exact h3) (by rw [gd.scope]; exact vis_of h4) (nm_of h5).1 (nm_of h5).2 ⟨rfl, beq_iff_eq.mpr h2, rfl, fun e' r' e0 => by cases e0⟩) fun _ => rfl
    · cases h
  | .pop0 i, C, sc, X, Z, e, gd, nd, h => by
    unfold ckE at h
    split at h
    · simp only [Bool.and_eq_true, beq_iff_eq] at h
      obtain ⟨⟨⟨⟨⟨h1, h2⟩, h3⟩, h4⟩, h5⟩, h6⟩ := h
      subst h1 h6
      exact pt_val (me_pop0 (by rw [gd.N]; exact h3) (by rw [gd.scope]; exact vis_of h4) (nm_of h5).1 (nm_of h5).2 ⟨rfl, beq_iff_eq.mpr h2, rfl, fun e' r' e0 => by cases e0; exact ⟨rfl, rfl⟩⟩) fun _ => rfl
    · cases h
  | .comp own elt t it ifs, C, sc, X, Z, e, gd, nd, h => by
    unfold ckE at h
    split at h
    · simp only [Bool.and_eq_true] at h
      obtain ⟨⟨⟨⟨⟨⟨h1, h2⟩, h3⟩, h4⟩, h5⟩, h6⟩, h7⟩ := h
      unfold needE at nd
      have ok : BlkOk X.N X.env.scope _ own := blkOk_by (by rw [gd.N, gd.scope]; exact h3)
      refine pt_val (pe_imp (pe_lc (g := tG X.K (slTg t) (evTg t)) (tt := tT X.K noZ (evIf ifs)) (te := tE X.K noZ (evE elt)) gd.calm gd.nd (sI it gd nd.1 h1) ok (fun s H Cd cl fp => ?_) (fun s H Cd cl fp => ?_) (fun s H Cd cl fp => ?_) (set_of h2)) fun σ H Q z => lc_ok (fun j hj => ?_) z) fun _ => rfl
      · exact sTg t (fs := blkFs _ sc) (Z := noZ) (gd.blk ok.kind) nd.2.1 h4 (fun x hx => by
          unfold blkFs at hx
          rw [Bool.or_eq_true] at hx
          rcases hx with hx | hx
          · exact .inl hx
          · exact .inr (by show (relS _ X.env.scope).names.lookup x = _; rw [gd.scope]; exact eq_of_beq hx))
      · exact sIf ifs (gd.blk ok.kind) nd.2.2.1 h6
      · exact (sE elt (gd.blk ok.kind) nd.2.2.2 h7).1
      · rw [List.all_eq_true] at h5
        exact List.contains_iff_mem.mp (h5 j hj)
    · cases h
  | .fstr es, C, sc, X, Z, e, gd, nd, h => by
    unfold ckE at h
    split at h
    · rename_i vs pos
      simp only [Bool.and_eq_true, decide_eq_true_eq] at h
      unfold needE at nd
      obtain ⟨p1, p2, p3, _⟩ := sEs es gd nd h.1
      refine pt_val ?_ fun _ => rfl
      unfold evE
      cases vs with
      | nil => exact absurd h.2 (by decide)
      | cons a r =>
        cases r with
        | nil => exact absurd h.2 (by simp)
        | cons b r => exact me_joined p2
    · cases h
  | .fmt a, C, sc, X, Z, e, gd, nd, h => by
    unfold ckE at h
    split at h
    · unfold needE at nd
      exact pt_val (me_fmt (sE a gd nd h).1) fun _ => rfl
    · cases h
theorem sEs : ∀ (es : CEs) {C : Str → Nat → FSem → Prop} {sc : Scope} {X : Cx} {Z : ZT} {xs : List Expr}, Good T C0 C G sc X Z → needEs C0 C G es → ckEs T sc es xs = true →
    PA X xs (tAs X.K Z (evAll (evEs es))) ∧ MJ X Z xs (evEs es) ∧ (evEs es).length = xs.length ∧ (allTest es = true → xs ≠ [] → ∀ op k pos, opIs op k = true → PE X (.BoolOp op xs pos) (tE X.K Z (evBlV k (evEs es))) ∧ PW X (.BoolOp op xs pos) (tT X.K Z (evBl k ((evEs es).map evB))))
  | .nil, C, sc, X, Z, xs, gd, nd, h => by
    unfold ckEs at h
    split at h
    · exact ⟨ma_nil, .nil, rfl, fun _ z => absurd rfl z⟩
    · cases h
  | .cons c r, C, sc, X, Z, xs, gd, nd, h => by
    unfold ckEs at h
    split at h
    · rename_i x xs'
      simp only [Bool.and_eq_true] at h
      obtain ⟨⟨h1, h2⟩, h3⟩ := h
      unfold needEs at nd
      obtain ⟨p1, p2⟩ := sE c gd nd.1 h1
      obtain ⟨q1, q2, q3, q4⟩ := sEs r gd nd.2 h3
      refine ⟨ma_cons p1 q1 (star_of h2), .cons p1 q2, by unfold evEs; rw [List.length_cons, List.length_cons, q3], fun ht _ op k pos ho => ?_⟩
      unfold allTest at ht
      rw [Bool.and_eq_true] at ht
      cases xs' with
      | nil =>
        cases r with
        | cons _ _ =>
          unfold ckEs at h3
          cases h3
        | nil =>
          show PE X (.BoolOp op [x] pos) (tE X.K Z (evBlV k [evE c])) ∧ PW X (.BoolOp op [x] pos) (tT X.K Z (evBl k [evB (evE c)]))
          refine ⟨me_bool1 p1, ?_⟩
          cases op <;> cases k <;> first | (cases ho; done) | skip
          · exact me_and1 (p2 ht.1)
          · exact me_or1 (p2 ht.1)
      | cons y ys =>
        cases r with
        | nil =>
          unfold ckEs at h3
          cases h3
        | cons c2 r2 =>
          obtain ⟨s1, s2⟩ := q4 ht.2 (by simp) op k pos ho
          show PE X (.BoolOp op (x :: y :: ys) pos) (tE X.K Z (evBlV k (evE c :: evE c2 :: evEs r2))) ∧ PW X (.BoolOp op (x :: y :: ys) pos) (tT X.K Z (evBl k (evB (evE c) :: evB (evE c2) :: (evEs r2).map evB)))
          cases op <;> cases k <;> first | (cases ho; done) | skip
          · exact ⟨me_andV p1 s1, me_andC (p2 ht.1) s2⟩
          · exact ⟨me_orV p1 s1, me_orC (p2 ht.1) s2⟩
    · cases h
theorem sP : ∀ (es : CEs) {C : Str → Nat → FSem → Prop} {sc : Scope} {X : Cx} {Z : ZT} {eo : Option Expr}, Good T C0 C G sc X Z → needEs C0 C G es → ckP T sc es eo = true → PO X eo (tPt X.K Z (evP es))
  | .nil, C, sc, X, Z, eo, gd, nd, h => by
    unfold ckP at h
    split at h
    · exact mo_none
    · cases h
  | .cons c r, C, sc, X, Z, eo, gd, nd, h => by
    unfold ckP at h
    split at h
    · unfold needEs at nd
      exact mo_some (sE c gd nd.1 h).1
    · cases h
theorem sIf : ∀ (es : CEs) {C : Str → Nat → FSem → Prop} {sc : Scope} {X : Cx} {Z : ZT} {xs : List Expr}, Good T C0 C G sc X Z → needEs C0 C G es → ckIf T sc es xs = true → PTs X xs (tT X.K Z (evIf es))
  | .nil, C, sc, X, Z, eo, gd, nd, h => by
    unfold ckIf at h
    split at h
    · exact ⟨fun pins s σ H Q I ⟨b, en, oa, sim, q⟩ => pts_nil.run pins s σ H Q I (q H sim Ext.refl)⟩
    · cases h
  | .cons c r, C, sc, X, Z, eo, gd, nd, h => by
    unfold ckIf at h
    split at h
    · simp only [Bool.and_eq_true] at h
      unfold needEs at nd
      exact pts_one ((sE c gd nd.1 h.2).2 h.1)
    · cases h
theorem sI : ∀ (it : CI) {C : Str → Nat → FSem → Prop} {sc : Scope} {X : Cx} {Z : ZT} {tg e : Expr}, Good T C0 C G sc X Z → needI C0 C G it → ckI T sc it tg e = true → PI X tg e (tI X.K Z (evI it))
  | .seq c, C, sc, X, Z, tg, e, gd, nd, h => by
    unfold ckI at h
    unfold needI at nd
    exact mi_iter (sE c gd nd h).1
  | .rng1 a, C, sc, X, Z, tg, e, gd, nd, h => by
    unfold ckI at h
    split at h
    · simp only [Bool.and_eq_true, beq_iff_eq] at h
      obtain ⟨⟨⟨⟨h1, h2⟩, h3⟩, h4⟩, h5⟩ := h
      subst h1
      unfold needI at nd
      exact mi_rng1 (gl_of gd.scope h2) (gd.fr _ h3) (ma_cons (sE a gd nd h4).1 ma_nil (star_of h5)) (star_of h5)
    · cases h
  | .rng2 a b, C, sc, X, Z, tg, e, gd, nd, h => by
    unfold ckI at h
    split at h
    · simp only [Bool.and_eq_true, beq_iff_eq] at h
      obtain ⟨⟨⟨⟨⟨⟨h1, h2⟩, h3⟩, h4⟩, h5⟩, h6⟩, h7⟩ := h
      subst h1
      unfold needI at nd
      exact mi_rng2 (gl_of gd.scope h2) (gd.fr _ h3) (ma_cons (sE a gd nd.1 h4).1 (ma_cons (sE b gd nd.2 h5).1 ma_nil (star_of h7)) (star_of h6)) (by rw [star_of h6, star_of h7]; rfl) (star_of h7)
    · cases h
  | .enum a, C, sc, X, Z, tg, e, gd, nd, h => by
    unfold ckI at h
    split at h
    · simp only [Bool.and_eq_true, beq_iff_eq] at h
      obtain ⟨⟨⟨⟨h1, h2⟩, h3⟩, h4⟩, h5⟩ := h
      subst h1
      unfold needI at nd
      exact mi_enum (gl_of gd.scope h2) (gd.fr _ h3) (ma_cons (sE a gd nd h4).1 ma_nil (star_of h5)) (star_of h5)
    · cases h
  | .zip a b, C, sc, X, Z, tg, e, gd, nd, h => by
    unfold ckI at h
    split at h
    · simp only [Bool.and_eq_true, beq_iff_eq] at h
      obtain ⟨⟨⟨⟨⟨⟨h1, h2⟩, h3⟩, h4⟩, h5⟩, h6⟩, h7⟩ := h
      subst h1
      unfold needI at nd
      exact mi_zip (gl_of gd.scope h2) (gd.fr _ h3) (ma_cons (sE a gd nd.1 h4).1 (ma_cons (sE b gd nd.2 h5).1 ma_nil (star_of h7)) (star_of h6)) (star_of h6) (by rw [star_of h7]; rfl)
    · cases h
theorem sTg : ∀ (t : Tg) {C : Str → Nat → FSem → Prop} {sc : Scope} {X : Cx} {Z : ZT} {fs : Str → Bool} {e : Expr}, Good T C0 C G sc X Z → needTg C0 C G t → ckTg T sc fs t e = true → (∀ x, fs x = true → X.fn x = true ∨ X.env.scope.names.lookup x = some .local) → PG X e (tG X.K (slTg t) (evTg t))
  | .name i, C, sc, X, Z, fs, e, gd, nd, h, hf => by
    unfold ckTg at h
    split at h
    · simp only [Bool.and_eq_true, beq_iff_eq] at h
      obtain ⟨⟨h1, h2⟩, h3⟩ := h
      exact mg_name gd.nd (by rw [gd.N]; exact h1) (by rw [gd.scope]; exact loc_of h2) (hf _ h3)
    · cases h
  | .sub i k, C, sc, X, Z, fs, e, gd, nd, h, hf => by
    unfold ckTg at h
    split at h
    · simp only [Bool.and_eq_true, beq_iff_eq] at h
      obtain ⟨⟨⟨⟨⟨h1, h2⟩, h3⟩, h4⟩, h5⟩, h6⟩ := h
      unfold needTg at nd
      exact mg_sub (Z := Z) (by rw [gd.N]; exact h1) (by rw [gd.scope]; exact vis_of h2) (nm_of h3).1 (nm_of h3).2 (sE k gd nd h4).1 (quiet_ok k h5) (fun v => asg_sub h6)
    · cases h
  | .tup ts, C, sc, X, Z, fs, e, gd, nd, h, hf => by
    unfold ckTg at h
    split at h
    · unfold needTg at nd
      obtain ⟨p1, p2, p3⟩ := sTgs ts gd nd h hf
      exact mg_tup gd.calm p1 p2 p3
    · cases h
theorem sTgs : ∀ (ts : Tgs) {C : Str → Nat → FSem → Prop} {sc : Scope} {X : Cx} {Z : ZT} {fs : Str → Bool} {xs : List Expr}, Good T C0 C G sc X Z → needTgs C0 C G ts → ckTgs T sc fs ts xs = true → (∀ x, fs x = true → X.fn x = true ∨ X.env.scope.names.lookup x = some .local) →
    PGs X xs (tGs X.K (slTgs ts) (evTgs ts)) ∧ (assignEach xs X.env).length = ts.len ∧ (assignEach xs X.env).findIdx? (·.1) = none
  | .nil, C, sc, X, Z, fs, xs, gd, nd, h, hf => by
    unfold ckTgs at h
    split at h
    · exact ⟨mgs_nil, rfl, rfl⟩
    · cases h
  | .cons t r, C, sc, X, Z, fs, xs, gd, nd, h, hf => by
    unfold ckTgs at h
    split at h
    · rename_i x xs'
      simp only [Bool.and_eq_true] at h
      obtain ⟨⟨h1, h2⟩, h3⟩ := h
      unfold needTgs at nd
      obtain ⟨p1, p2, p3⟩ := sTgs r gd nd.2 h3 hf
      refine ⟨mgs_cons (sTg t gd nd.1 h1 hf) p1 (by rw [asg_of h2]; rfl), by rw [asg_of h2, List.length_cons, p2]; rfl, ?_⟩
      rw [asg_of h2, List.findIdx?_cons]
      simp [p3]
    · cases h
end
end
end Mi
set_option Elab.async false
set_option linter.all false
set_option maxRecDepth 100000
set_option autoImplicit false
/-! MiF: the checker's word for statements; a def by its body -/
namespace Mi
open PySem PySem.Spec L2
open PyProof.Rows (envOfC)
section
variable {T : CkCx} {C0 C : Str → Nat → FSem → Prop} {G : Str → D → Prop} {sc : Scope} {X : Cx} {Z : ZT}
theorem par_ok {fs : List (M RV)} {i j : Nat} (hij : i ≠ j) {De : Ends} {σ : St} {H : Hp} (h : tS X.K Z (xPar i j fs true true) De σ H) : tPar i j (tAs X.K Z (evAll fs)) De σ H := by
  obtain ⟨b, en, oa, sim, h⟩ := h
  refine ⟨b, en, oa, sim, ?_⟩
  unfold xPar at h
  cases e1 : evAll fs en with
  | err => rw [e1] at h; exact h
  | exc x en1 => rw [e1] at h; exact fun H' s' => h oa σ H' s'
  | ok rs en1 =>
    rw [e1] at h
    intro vs H1 s1 x1 r1
    cases r1 with
    | nil => exact h.elim
    | cons ra r1 =>
      rename_i v1 rv1 _ _
      cases rv1 with
      | loc _ => exact h.elim
      | val d1 f1 =>
        cases r1 with
        | nil => exact h.elim
        | cons rb r1 =>
          rename_i v2 rv2 _ _
          cases rv2 with
          | loc _ => exact h.elim
          | val d2 f2 =>
            cases r1 with
            | cons _ _ => exact h.elim
            | nil =>
              simp only at h
              cases ei : en1[i]? with
              | none => cases ej : en1[j]? with
                | none => rw [ei, ej] at h; exact h.elim
                | some sj => rw [ei, ej] at h; cases sj <;> exact h.elim
              | some si => cases ej : en1[j]? with
                | none => rw [ei, ej] at h; cases si <;> exact h.elim
                | some sj =>
                  rw [ei, ej] at h
                  have key : SOk X.K b Z De (.nx ((en1.set i (.val d1)).set j (.val d2))) → De.nx ((σ.set i (some v1)).set j (some v2)) H1 := fun h => by
                    obtain ⟨s2, x2⟩ := s1.setVal (lt_of_get ei) ra
                    obtain ⟨s3, x3⟩ := s2.setVal (i := j) (by rw [List.length_set]; exact lt_of_get ej) (dp_mono x2.same rb)
                    exact h oa _ H1 s3
                  refine ⟨v1, v2, rfl, ?_⟩
                  cases si <;> cases sj <;> first | exact h.elim | exact key (by simpa [hij] using h)
theorem swN {e : Expr} {t : Option Expr} {l : Nat} {env : Env} (h : isComp e = false) : swapsWith e t l env = pure false := by
  cases e <;> first | rfl | cases h
theorem sw_tg {e tg : Expr} {l : Nat} {env : Env} (h : (isTup tg || isSub tg) = true) : swapsWithSole [tg] e l env = pure false := by
  cases tg <;> first | (cases h; done) | (cases e <;> rfl)
theorem filter_lt {α β : Type} {f : α → Option β} : ∀ {l : List α} {x : α}, x ∈ l → f x = none → (l.filterMap f).length < l.length
  | y :: r, x, hm, hx => by
    rcases List.mem_cons.mp hm with e | hm
    · subst e
      simp only [List.filterMap_cons, hx, List.length_cons]
      exact Nat.lt_succ_of_le (List.length_filterMap_le _ _)
    · rw [List.filterMap_cons, List.length_cons]
      have := filter_lt (f := f) hm hx
      split
      · omega
      · rw [List.length_cons]; omega
theorem sw_none {env : Env} {tg v : Expr} (h : (isTup tg || isSub tg) = true) (hp : plainTg env.scope tg v = true) : swappedStores [tg] v env = pure none := by
  cases tg with
  | Subscript o i p => cases v <;> rfl
  | Tuple ts k p =>
    cases v with
    | Tuple vs k2 p2 =>
      unfold plainTg at hp
      simp only [Bool.or_eq_true] at hp
      unfold swappedStores
      simp only
      by_cases c1 : ((!(ts.length == 2 || ts.length == 3) || vs.length != ts.length || env.blockKind != .function) = true)
      · rw [if_pos c1]
      · rw [if_neg c1]
        split
        · rfl
        · rw [if_pos]
          simp only [Bool.or_eq_true, not_or] at c1
          rcases hp with (hp | hp) | hp
          · exact absurd hp c1.1.1
          · exact absurd hp c1.1.2
          · rw [List.any_eq_true] at hp
            obtain ⟨x, hm, hx⟩ := hp
            rw [Bool.or_eq_true]
            refine .inl ?_
            rw [bne_iff_ne]
            refine Nat.ne_of_lt (filter_lt hm ?_)
            cases x with
            | Name y py =>
              simp only [Bool.not_eq_true', beq_eq_false_iff_ne, ne_eq] at hx
              have : (env.kindOf y == some .local) = false := by
                rw [beq_eq_false_iff_ne]; exact hx
              simp [this]
            | _ => rfl
    | _ => rfl
  | _ => cases h
theorem comp_parts {c : CE} {e : Expr} {gs : List Comprehension} {scope : Scope} {pos : Pos} (gd : Good T C0 C G sc X Z) (nd : needE C0 C G c) (h : ckE T sc c (.ListComp e gs scope pos) = true) :
    ∃ own elt t it ifs te ie fs, c = .comp own elt t it ifs ∧ gs = [⟨te, ie, fs, 0⟩] ∧ PI X te ie (tI X.K Z (evI it)) ∧ BlkOk X.N X.env.scope scope own ∧
      (∀ (s : Shared) (H : Hp) (Cd : Addr) (cl : List (Str × Addr)) (fp : List Addr), PG (X.blk s H scope (compEnvC scope cl Cd X.env) fp) te (tG X.K (slTg t) (evTg t))) ∧
      (∀ (s : Shared) (H : Hp) (Cd : Addr) (cl : List (Str × Addr)) (fp : List Addr), PTs (X.blk s H scope (compEnvC scope cl Cd X.env) fp) fs (tT X.K noZ (evIf ifs))) ∧
      (∀ (s : Shared) (H : Hp) (Cd : Addr) (cl : List (Str × Addr)) (fp : List Addr), PE (X.blk s H scope (compEnvC scope cl Cd X.env) fp) e (tE X.K noZ (evE elt))) ∧
      notSet ie = true ∧ ∀ j ∈ slTg t, j ∈ own.map (·.2) := by
  cases c with
  | comp own elt t it ifs =>
    unfold ckE at h
    split at h
    · rename_i e' te ie fs scope' pos' heq
      cases heq
      simp only [Bool.and_eq_true] at h
      obtain ⟨⟨⟨⟨⟨⟨h1, h2⟩, h3⟩, h4⟩, h5⟩, h6⟩, h7⟩ := h
      unfold needE at nd
      have ok : BlkOk X.N X.env.scope _ own := blkOk_by (by rw [gd.N, gd.scope]; exact h3)
      refine ⟨own, elt, t, it, ifs, te, ie, fs, rfl, rfl, sI it gd nd.1 h1, ok, fun s H Cd cl fp => ?_, fun s H Cd cl fp => ?_, fun s H Cd cl fp => ?_, h2, fun j hj => ?_⟩
      · exact sTg t (fs := blkFs _ sc) (Z := noZ) (gd.blk ok.kind) nd.2.1 h4 (fun x hx => by
          unfold blkFs at hx
          rw [Bool.or_eq_true] at hx
          rcases hx with hx | hx
          · exact .inl hx
          · exact .inr (by show (relS _ X.env.scope).names.lookup x = _; rw [gd.scope]; exact eq_of_beq hx))
      · exact sIf ifs (gd.blk ok.kind) nd.2.2.1 h6
      · exact (sE elt (gd.blk ok.kind) nd.2.2.2 h7).1
      · rw [List.all_eq_true] at h5
        exact List.contains_iff_mem.mp (h5 j hj)
    · cases h
  | _ => unfold ckE at h; cases h
/-- name = value, whether the value's a comprehension or not -/
theorem set_any {f : M RV → Fr → SRes} {i : Nat} {c : CE} {x : Str} {px pos : Pos} {v : Expr} (hf : ∀ (fa : M RV) De σ H, tS X.K Z (f fa) De σ H → tE X.K Z fa σ H fun x H1 => gName i x σ H1 De.nx) (gd : Good T C0 C G sc X Z) (fn : ∀ x, X.fn x = true) (nd : needE C0 C G c)
    (h1 : T.N[i]? = some x) (h2 : isLoc sc x = true) (h3 : ckE T sc c v = true) (h4 : (!isComp v || swaps sc v x px) = true) : PS X (.Assign [.Name x px] v pos) (tS X.K Z (f (evE c))) := by
  rw [Bool.or_eq_true] at h4
  by_cases hc : isComp v = true
  · rw [hc] at h4
    rcases h4 with h4 | h4
    · cases h4
    cases v with
    | ListComp e gs scope p2 =>
      obtain ⟨own, elt, t, it, ifs, te, ie, fs, rfl, rfl, p1, ok, p2, p3, p4, p5, p6⟩ := comp_parts gd nd h3
      unfold swaps at h4
      simp only [Bool.and_eq_true, Bool.not_eq_true', beq_iff_eq] at h4
      obtain ⟨⟨h5, h6⟩, h7⟩ := h4
      have hl : X.env.scope.names.lookup x = some .local := by rw [gd.scope]; exact h5
      exact ps_imp (ps_setLc (g := tG X.K (slTg t) (evTg t)) (tt := tT X.K noZ (evIf ifs)) (te := tE X.K noZ (evE elt)) gd.calm gd.nd (by rw [gd.N]; exact h1) hl (sw_true (by rw [gd.scope]; exact gd.kind) hl (beq_iff_eq.mpr h6) h7) p1 ok p2 p3 p4 (set_of p5))
        fun De σ H z => lc_ok p6 (hf _ De σ H z)
    | _ => first | (cases h4; done) | cases hc
  · exact ps_imp (ps_set gd.nd (by rw [gd.N]; exact h1) (by rw [gd.scope]; exact loc_of h2) (sE c gd nd h3).1 (swN (by simpa using hc)) (.inl (fn x))) fun De σ H z => hf _ De σ H z
mutual
theorem sS : ∀ (c : CS) {st : Stmt}, Good T C0 C G sc X Z → (∀ x, X.fn x = true) → PassesOwn (model X.prog X.w) X.A X.env X.xe → needS C0 C G c → ckS T sc c st = true → PS X st (tS X.K Z (evS c))
  | .set i e, st, gd, fn, hp, nd, h => by
    unfold ckS at h
    split at h
    · simp only [Bool.and_eq_true, beq_iff_eq] at h
      obtain ⟨⟨⟨h1, h2⟩, h3⟩, h4⟩ := h
      unfold needS at nd
      exact set_any (f := xSet i) (fun fa De σ H z => set_ok z) gd fn nd h1 h2 h3 h4
    · cases h
  | .own i e, st, gd, fn, hp, nd, h => by
    unfold ckS at h
    split at h
    · simp only [Bool.and_eq_true, beq_iff_eq] at h
      obtain ⟨⟨⟨h1, h2⟩, h3⟩, h4⟩ := h
      unfold needS at nd
      exact set_any (f := xOwn i) (fun fa De σ H z => own_ok z) gd fn nd h1 h2 h3 h4
    · cases h
  | .asg t e, st, gd, fn, hp, nd, h => by
    unfold ckS at h
    split at h
    · simp only [Bool.and_eq_true] at h
      obtain ⟨⟨⟨⟨h1, h2⟩, h3⟩, h4⟩, h5⟩ := h
      unfold needS at nd
      exact ms_asg (sE e gd nd.2 h2).1 (sTg t gd nd.1 h1 fun x _ => .inl (fn x)) (sw_tg h5) (sw_none h5 (by rw [gd.scope]; exact h4)) (by rw [asg_of h3]; rfl)
    · cases h
  | .par i j a b, st, gd, fn, hp, nd, h => by
    unfold ckS at h
    split at h
    · rename_i x px y py _ pt v z _ _ pos
      simp only [Bool.and_eq_true, beq_iff_eq, Bool.not_eq_true'] at h
      obtain ⟨⟨⟨⟨⟨⟨⟨⟨⟨⟨⟨h1, h2⟩, h3⟩, h4⟩, h5⟩, h6⟩, h7⟩, h8⟩, h9⟩, h10⟩, h11⟩, h12⟩ := h
      unfold needS at nd
      have hij : i ≠ j := by
        rintro rfl
        rw [h1] at h2
        cases h2
        simp at h5
      refine ps_imp (ps_par gd.calm gd.nd (by rw [gd.N]; exact h1) (by rw [gd.N]; exact h2) hij (by rw [gd.scope]; exact h3) (by rw [gd.scope]; exact h4) (ma_cons (sE a gd nd.1 h7).1 (ma_cons (sE b gd nd.2 h8).1 ma_nil (star_of h10)) (star_of h9)) ?_) fun De σ H z => par_ok hij z
      have kx : X.env.kindOf x = some .local := by show X.env.scope.names.lookup x = _; rw [gd.scope]; exact h3
      have ky : X.env.kindOf y = some .local := by show X.env.scope.names.lookup y = _; rw [gd.scope]; exact h4
      have hb : X.env.blockKind = .function := by unfold Env.blockKind; rw [gd.scope, gd.kind]; rfl
      have sv : ([v, z].any fun | .Starred .. => true | _ => false) = false := by
        cases v <;> first | (cases h9; done) | skip
        all_goals (cases z <;> first | (cases h10; done) | rfl)
      have hxy : ¬ x = y := by simpa using h5
      have hyx : ¬ y = x := fun e => hxy e.symm
      unfold swappedStores
      simp only [List.length_cons, List.length_nil, hb, sv, h11, h12, kx, ky, List.head?_cons, Option.map_some, Option.getD_some, Expr.pos, List.filterMap_cons, List.filterMap_nil, h6]
      simp [List.eraseDups_cons, hxy, hyx]
      intro hh
      rcases hh with hh | hh
      · cases v <;> first | (cases h9; done) | cases hh
      · cases z <;> first | (cases h10; done) | cases hh
    · cases h
  | .expr e, st, gd, fn, hp, nd, h => by
    unfold ckS at h
    split at h
    · simp only [Bool.and_eq_true, Bool.not_eq_true'] at h
      unfold needS at nd
      exact ms_expr (sE e gd nd h.1).1 (swN h.2)
    · cases h
  | .ret e, st, gd, fn, hp, nd, h => by
    unfold ckS at h
    split at h
    · unfold needS at nd
      exact ms_ret (sE e gd nd h).1
    · cases h
  | .retN, st, gd, fn, hp, nd, h => by
    unfold ckS at h
    split at h
    · exact ms_retN
    · cases h
  | .if_ c a b, st, gd, fn, hp, nd, h => by
    unfold ckS at h
    split at h
    · simp only [Bool.and_eq_true] at h
      obtain ⟨⟨⟨h1, h2⟩, h3⟩, h4⟩ := h
      unfold needS at nd
      exact ms_if ((sE c gd nd.1 h2).2 h1) (sSs a gd fn hp nd.2.1 h3) (sSs b gd fn hp nd.2.2 h4)
    · cases h
  | .for_ t it body, st, gd, fn, hp, nd, h => by
    unfold ckS at h
    split at h
    · simp only [Bool.and_eq_true] at h
      obtain ⟨⟨⟨h1, h2⟩, h3⟩, h4⟩ := h
      unfold needS at nd
      exact ms_for hp gd.calm (sI it gd nd.2.1 h1) (sTg t gd nd.1 h3 fun x _ => .inl (fn x)) (sSs body gd fn hp nd.2.2 h4) (set_of h2)
    · cases h
  | .while_ c body, st, gd, fn, hp, nd, h => by
    unfold ckS at h
    split at h
    · simp only [Bool.and_eq_true] at h
      obtain ⟨⟨h1, h2⟩, h3⟩ := h
      unfold needS at nd
      exact ms_while hp ((sE c gd nd.1 h2).2 h1) (sSs body gd fn hp nd.2 h3)
    · cases h
  | .pass, st, gd, fn, hp, nd, h => by
    unfold ckS at h
    split at h
    · exact ms_pass
    · cases h
  | .brk, st, gd, fn, hp, nd, h => by
    unfold ckS at h
    split at h
    · exact ms_break
    · cases h
  | .cnt, st, gd, fn, hp, nd, h => by
    unfold ckS at h
    split at h
    · exact ms_cont
    · cases h
  | .never, st, gd, fn, hp, nd, h => ⟨fun pins s σ H D I ⟨b, en, oa, sim, z⟩ => z.elim⟩
theorem sSs : ∀ (c : CSs) {st : List Stmt}, Good T C0 C G sc X Z → (∀ x, X.fn x = true) → PassesOwn (model X.prog X.w) X.A X.env X.xe → needSs C0 C G c → ckSs T sc c st = true → PSs X st (tS X.K Z (evSs c))
  | .nil, st, gd, fn, hp, nd, h => by
    unfold ckSs at h
    split at h
    · exact mss_nil
    · cases h
  | .cons s r, st, gd, fn, hp, nd, h => by
    unfold ckSs at h
    split at h
    · simp only [Bool.and_eq_true] at h
      unfold needSs at nd
      exact mss_cons (sS s gd fn hp nd.1 h.1) (sSs r gd fn hp nd.2 h.2)
    · cases h
end
end
end Mi
set_option Elab.async false
set_option linter.all false
set_option maxRecDepth 100000
set_option autoImplicit false
/-! MiG: a def by its mini text -/
namespace Mi
open PySem PySem.Spec L2
open PyProof.Rows (envOfC)

def noX (g : FSem) : FSem := fun mo ds => match g mo ds with
  | .exc _ _ => .err
  | r => r
theorem noX_no (g : FSem) : NoExc (noX g) := fun mo ds x o h => by
  unfold noX at h
  split at h
  · cases h
  · rename_i r hn
    exact hn _ _ h
theorem noX_says {n : Nat} {f : Fr → SRes} : Says n f (noX (runF n f)) := fun mo ds h => by
  unfold noX at h ⊢
  split
  · rename_i e
    rw [e] at h
    exact absurd rfl h
  · rfl
/-- what a def does, by its mini text -/
def gOf (N : List Str) (body : CSs) : FSem := noX (runF N.length (evSs body))
theorem gOf_ok {N : List Str} {body : CSs} {mo : Option D} {ds : List D} {d : D} {fr : Bool} {o : Option D} (h : runF N.length (evSs body) mo ds = .ok d fr o) : gOf N body mo ds = .ok d fr o := by
  unfold gOf noX
  rw [h]
section
variable {P : Program} {w : World} {K : PySem.W.Frag} {mg : Str → Option Value} {base : Heap}
theorem fn_has {x : Str} {st : Stmt} {f : Addr} {fd : FuncData} {N ps fr : List Str} {k : Nat} {body : CSs} {C : Str → Nat → FSem → Prop} {G : Str → D → Prop} (F : Fun K x x st f fd) (hm : mg x = some (.ref f)) (b : Binds K fd ps []) (S : FnScope N ps (defScope st))
    (hfr : ∀ y, fr.contains y = true → mg y = none) (hC : ∀ x n g, C x n g → NoExc g ∧ FnHas P w K mg base k x n g) (hG : ∀ x d, G x d → ∃ v u, mg x = some u ∧ RelV v u ∧ ∀ F, Dp K F v d)
    (nd : needSs C C G body) (ck : ckSs ⟨fr, N⟩ (defScope st) body (defBody st) = true) : FnHas P w K mg base (k + 1) x ps.length (gOf N body) := by
  refine ⟨f, fd, ps, hm, F.kp, b, fn_ok F S (noX_no _) noX_says fun cdv A outer s H E hr => ?_⟩
  refine sSs (T := ⟨fr, N⟩) (C0 := C) (C := C) (G := G) (sc := defScope st) body ?_ (fun _ => rfl) PassesOwn.never nd ck
  refine ⟨rfl, S.nd, rfl, S.kind, rfl, ?_, hfr, fun x n g h => ?_, fun x n g h => ?_, hG⟩
  · have := hr.un
    show (A.deeper (envOfC x (defScope st) s.heap.objs.size f cdv)).units + 65 < cLine
    omega
  · exact ⟨(hC x n g h).1, k, hr, (hC x n g h).2⟩
  · exact rule_of (X := (cxOf CX0 P w K mg base N _ (defScope st) f cdv A outer s H E).nox) (hC x n g h).2 (hC x n g h).1 hr
end
end Mi
set_option Elab.async false
set_option linter.all false
set_option maxRecDepth 100000
set_option autoImplicit false
/-! MiH: what the top has written; the law's end -/
namespace Mi
open PySem PySem.Spec L2
open PyProof.Rows (envOfC)
section
variable {P : Program} {w : World} {K : PySem.W.Frag} {mg : Str → Option Value} {base : Heap}
def Has (P : Program) (w : World) (K : PySem.W.Frag) (mg : Str → Option Value) (base : Heap) (k : Nat) (x : Str) (n : Nat) (g : FSem) : Prop := NoExc g ∧ FnHas P w K mg base k x n g
theorem Has.mono {j k : Nat} {x : Str} {n : Nat} {g : FSem} (h : Has P w K mg base j x n g) (l : j ≤ k) : Has P w K mg base k x n g := ⟨h.1, h.2.mono l⟩
def Glo (K : PySem.W.Frag) (mg : Str → Option Value) (x : Str) (d : D) : Prop := ∃ v u, mg x = some u ∧ RelV v u ∧ ∀ F, Dp K F v d
/-- a def of the module where it stands -/
structure DefA (K : PySem.W.Frag) (mg : Str → Option Value) (x : Str) (st : Stmt) (ps : List Str) : Prop where
  ex : ∃ f fd, Fun K x x st f fd ∧ mg x = some (.ref f) ∧ Binds K fd ps []
theorem defA_mk {x : Str} {st : Stmt} {ps : List Str} {h : Heap} {f : Addr} {od an : Option Addr} {sl : Array (Option Value)} {oc kV dc pm cd ct : Value} (X : K.In h) (G : h.Ns mainGlobals mg)
    (b : ∀ (kV doc pm : Value) (an : Option Addr) (cdv ct : Value) (us : List Value), us.length = ps.length → bindArgs (PySem.W.fnOf x x (defArgs st) (defBody st) (defScope st) .none kV doc pm an cdv ct) ⟨us, []⟩ = pure (ps.zip us))
    (a : PySem.W.nsIn K mainGlobals x = some (some (.ref f))) (l : K.lookup f = some ⟨oc, od, .func (PySem.W.fnOf x x (defArgs st) (defBody st) (defScope st) .none kV dc pm an cd ct), sl⟩) (c : PySem.W.codeIn K cd x = true) (k : PySem.W.keepIn K (.ref f) = true) : DefA K mg x st ps :=
  ⟨⟨f, _, fun_mk l c k, PySem.W.mg_of X G a, (fun_mk (st := st) l c k).binds b⟩⟩
theorem has_of {x : Str} {st : Stmt} {N ps fr : List Str} {k : Nat} {body : CSs} (F : DefA K mg x st ps) (S : FnScope N ps (defScope st)) (hfr : ∀ y, fr.contains y = true → mg y = none)
    (ck : ckSs ⟨fr, N⟩ (defScope st) body (defBody st) = true) (nd : needSs (Has P w K mg base k) (Has P w K mg base k) (Glo K mg) body) : Has P w K mg base (k + 1) x ps.length (gOf N body) := by
  obtain ⟨f, fd, F, hm, b⟩ := F.ex
  exact ⟨noX_no _, fn_has (C := Has P w K mg base k) (G := Glo K mg) F hm b S hfr (fun _ _ _ h => h) (fun _ _ h => h) nd ck⟩
theorem has_err {x : Str} {st : Stmt} {N ps : List Str} {k : Nat} (F : DefA K mg x st ps) (S : FnScope N ps (defScope st)) : Has P w K mg base (k + 1) x ps.length (fun _ _ => .err) := by
  obtain ⟨f, fd, F, hm, b⟩ := F.ex
  refine ⟨fun _ _ _ _ h => by (cases h), ⟨f, fd, ps, hm, F.kp, b, fn_ok (body := fun _ => .err) F S (fun _ _ _ _ h => by (cases h)) (fun _ _ h => absurd rfl h) fun cdv A outer s H E hr => ?_⟩⟩
  exact ⟨fun pins s σ H D I ⟨b, en, oa, sim, z⟩ => z.elim⟩
/-! ### constants -/
theorem glo_int {x : Str} {i : Int} {t : Tok} {h : Heap} (X : K.In h) (G : h.Ns mainGlobals mg) (a : PySem.W.nsIn K mainGlobals x = some (some (.int i t))) : Glo K mg x (.int i) :=
  ⟨.int i, _, PySem.W.mg_of X G a, ⟨_, rfl⟩, fun _ => .int i⟩
theorem glo_str {x z : Str} {t : Tok} {h : Heap} (X : K.In h) (G : h.Ns mainGlobals mg) (a : PySem.W.nsIn K mainGlobals x = some (some (.str z t))) : Glo K mg x (.str z) :=
  ⟨.str z, _, PySem.W.mg_of X G a, ⟨_, rfl⟩, fun _ => .str z⟩
def flatV : Value → D → Bool
  | .int i _, .int j => i == j
  | .str x _, .str y => x == y
  | .bool x, .bool y => x == y
  | .none, .none => true
  | _, _ => false
def flatVs : List Value → List D → Bool
  | [], [] => true
  | v :: vs, d :: ds => flatV v d && flatVs vs ds
  | _, _ => false
theorem flatV_ok {F : Hp} {u : Value} {d : D} (h : flatV u d = true) : ∃ v, RelV v u ∧ Dp K F v d := by
  cases u <;> cases d <;> first | (cases h; done) | skip
  · exact ⟨.non, rfl, .non⟩
  · unfold flatV at h; have := eq_of_beq h; subst this; exact ⟨.bl _, rfl, .bl _⟩
  · unfold flatV at h; have := eq_of_beq h; subst this; exact ⟨.int _, ⟨_, rfl⟩, .int _⟩
  · unfold flatV at h; have := eq_of_beq h; subst this; exact ⟨.str _, ⟨_, rfl⟩, .str _⟩
theorem flatVs_ok {F : Hp} : ∀ {us : List Value} {ds : List D}, flatVs us ds = true → ∃ vs, Vals vs us ∧ DpAll K F vs ds
  | [], [], _ => ⟨[], .nil, .nil⟩
  | [], _ :: _, h => by cases h
  | _ :: _, [], h => by cases h
  | u :: us, d :: ds, h => by
    unfold flatVs at h
    rw [Bool.and_eq_true] at h
    obtain ⟨v, r, q⟩ := flatV_ok (K := K) (F := F) h.1
    obtain ⟨vs, r', q'⟩ := flatVs_ok (F := F) h.2
    exact ⟨v :: vs, .cons r r', .cons q q'⟩
theorem glo_tup {x : Str} {a : Addr} {dct : Option Addr} {its : Array Value} {n : Nat} {sl : Array (Option Value)} {ds : List D} {h : Heap} (X : K.In h) (G : h.Ns mainGlobals mg) (e : PySem.W.nsIn K mainGlobals x = some (some (.ref a)))
    (l : K.lookup a = some ⟨.type "tuple", dct, .seq its n, sl⟩) (hv : (flatVs its.toList ds && decide (its.size < 1000)) = true) : Glo K mg x (.tuple ds) := by
  rw [Bool.and_eq_true, decide_eq_true_eq] at hv
  refine ⟨.ref a, _, PySem.W.mg_of X G e, rfl, fun F => ?_⟩
  obtain ⟨vs, r, q⟩ := flatVs_ok (K := K) (F := F) hv.1
  exact .tup (.inr ⟨_, its, n, l, rfl, rfl, Nat.le_of_lt (small1000 (Nat.le_of_lt hv.2)), r⟩) q
/-! ### the end -/
theorem law_ok {x : Str} {st : Stmt} {N ps fr : List Str} {k : Nat} {body : CSs} {f : Addr} {fd : FuncData} (F : Fun K x x st f fd) (S : FnScope N ps (defScope st)) (hfr : ∀ y, fr.contains y = true → mg y = none)
    (ck : ckSs ⟨fr, N⟩ (defScope st) body (defBody st) = true) (nd : needSs (Has P w K mg base k) (Has P w K mg base k) (Glo K mg) body) : FnOk P w K mg base CX0 (k + 1) f fd ps (spM K ps.length (gOf N body)) := by
  refine fn_ok F S (noX_no _) noX_says fun cdv A outer s H E hr => ?_
  refine sSs (T := ⟨fr, N⟩) (C0 := Has P w K mg base k) (C := Has P w K mg base k) (G := Glo K mg) (sc := defScope st) body ?_ (fun _ => rfl) PassesOwn.never nd ck
  refine ⟨rfl, S.nd, rfl, S.kind, rfl, ?_, hfr, fun x n g h => ⟨h.1, k, hr, h.2⟩, fun y n g h => rule_of (X := (cxOf CX0 P w K mg base N x (defScope st) f cdv A outer s H E).nox) h.2 h.1 hr, fun _ _ h => h⟩
  have := hr.un
  show (A.deeper (envOfC x (defScope st) s.heap.objs.size f cdv)).units + 65 < cLine
  omega
theorem ints_D {F : Hp} : ∀ (ns : List Int), DpAll K F (ns.map V.int) (ns.map PyData.int)
  | [] => .nil
  | i :: r => .cons (.int i) (ints_D r)
theorem law_sp {n : Nat} {g : FSem} (h : ∀ ns : List Int, ns.length ≤ n → g none [.list (ns.map .int)] = .ok (.bool true) false none) (H : Hp) (a : Addr) (ns : List Int) (hl : ns.length ≤ n) (q : SqL K H a (ns.map V.int)) :
    spM K 1 g [.ref a] H (fun v _ => v = .bl true) fun _ _ _ => False := by
  refine ⟨none, [.ref a], [.list (ns.map .int)], rfl, rfl, fun _ _ e => by (cases e), .cons (.lst ?_ (ints_D ns)) .nil, ?_⟩
  · exact sqL_mono (fun b o e => by
      unfold FrzM hide
      rw [if_neg]
      · exact e
      · rintro ⟨d, z⟩; cases z) q
  · show match g none [.list (ns.map .int)] with
      | .ok d fr out => _
      | _ => False
    rw [h ns hl]
    intro v H' f
    obtain ⟨_, d⟩ := f
    cases d
    rfl
end
end Mi
namespace Mi
open PySem PySem.Spec L2
theorem cut {A B : Prop} (h : A) (k : A → B) : B := k h
def FreeAll (mg : Str → Option Value) : List Str → Prop
  | [] => True
  | x :: r => mg x = none ∧ FreeAll mg r
theorem free_of {mg : Str → Option Value} : ∀ {fr : List Str}, FreeAll mg fr → ∀ y, fr.contains y = true → mg y = none
  | [], _, y, h => by simp at h
  | x :: r, ⟨h1, h2⟩, y, h => by
    rw [List.contains_cons, Bool.or_eq_true, beq_iff_eq] at h
    rcases h with h | h
    · subst h; exact h1
    · exact free_of h2 y h
end Mi
set_option Elab.async false
set_option linter.all false
set_option maxRecDepth 100000
set_option autoImplicit false
/-! MiP: loops and comprehensions of the mini text, in plain Lean -/
namespace Mi
open PySem PySem.Spec L2
theorem compGo_wp {own : List Nat} {ftg : D → M Unit} {ft : M Bool} {fe : M RV} (I : List D → List D → Fr → Prop)
    (h : ∀ d ds acc en, I (d :: ds) acc en → ∃ en1, ftg d en = .ok () en1 ∧ ((∃ en2 en3 y fr en4, ft en1 = .ok true en2 ∧ fe en2 = .ok (.val y fr) en3 ∧ wipeF own en3 = some en4 ∧ I ds (acc ++ [y]) en4) ∨ ∃ en2 en4, ft en1 = .ok false en2 ∧ wipeF own en2 = some en4 ∧ I ds acc en4)) :
    ∀ (ds acc : List D) (en : Fr), I ds acc en → ∃ ys en', compGo own ftg ft fe ds en = .ok ys en' ∧ I [] (acc ++ ys) en'
  | [], acc, en, i => ⟨[], en, rfl, by rw [List.append_nil]; exact i⟩
  | d :: ds, acc, en, i => by
    obtain ⟨en1, e1, q⟩ := h d ds acc en i
    rcases q with ⟨en2, en3, y, fr, en4, e2, e3, e4, i'⟩ | ⟨en2, en4, e2, e4, i'⟩
    · obtain ⟨ys, en', e5, i2⟩ := compGo_wp I h ds (acc ++ [y]) en4 i'
      refine ⟨y :: ys, en', ?_, by rw [List.append_assoc] at i2; exact i2⟩
      unfold compGo
      rw [e1]; simp only
      rw [e2]; simp only
      rw [e3]; simp only
      rw [e4]; simp only
      rw [e5]
    · obtain ⟨ys, en', e5, i2⟩ := compGo_wp I h ds acc en4 i'
      refine ⟨ys, en', ?_, i2⟩
      unfold compGo
      rw [e1]; simp only
      rw [e2]; simp only
      rw [e4]; simp only
      rw [e5]
/-- the frame stays, each item gives its value -/
theorem compGo_map {own : List Nat} {ftg : D → M Unit} {ft : M Bool} {fe : M RV} {en : Fr} {f : D → D} : ∀ (ds : List D),
    (∀ d ∈ ds, ∃ en1 en2 en3 fr, ftg d en = .ok () en1 ∧ ft en1 = .ok true en2 ∧ fe en2 = .ok (.val (f d) fr) en3 ∧ wipeF own en3 = some en) → compGo own ftg ft fe ds en = .ok (ds.map f) en
  | [], _ => rfl
  | d :: ds, h => by
    obtain ⟨en1, en2, en3, fr, e1, e2, e3, e4⟩ := h d (List.mem_cons_self ..)
    unfold compGo
    rw [e1]; simp only
    rw [e2]; simp only
    rw [e3]; simp only
    rw [e4]; simp only
    rw [compGo_map ds fun d hd => h d (List.mem_cons_of_mem _ hd)]
    rfl
/-- the frame stays, some items give values -/
theorem compGo_filter {own : List Nat} {ftg : D → M Unit} {ft : M Bool} {fe : M RV} {en : Fr} {f : D → Option D} : ∀ (ds : List D),
    (∀ d ∈ ds, ∃ en1 en2, ftg d en = .ok () en1 ∧ ((f d = none ∧ ft en1 = .ok false en2 ∧ wipeF own en2 = some en) ∨ ∃ y en3 fr, f d = some y ∧ ft en1 = .ok true en2 ∧ fe en2 = .ok (.val y fr) en3 ∧ wipeF own en3 = some en)) → compGo own ftg ft fe ds en = .ok (ds.filterMap f) en
  | [], _ => rfl
  | d :: ds, h => by
    obtain ⟨en1, en2, e1, q⟩ := h d (List.mem_cons_self ..)
    have ih := compGo_filter ds fun d hd => h d (List.mem_cons_of_mem _ hd)
    unfold compGo
    rw [e1]; simp only
    rcases q with ⟨e0, e2, e4⟩ | ⟨y, en3, fr, e0, e2, e3, e4⟩
    · rw [e2]; simp only
      rw [e4]; simp only
      rw [ih, List.filterMap_cons, e0]
    · rw [e2]; simp only
      rw [e3]; simp only
      rw [e4]; simp only
      rw [ih, List.filterMap_cons, e0]
theorem forGo_wp {ftg : D → M Unit} {fb : Fr → SRes} {Po : SRes → Prop} (I : List D → Fr → Prop)
    (h : ∀ d ds en, I (d :: ds) en → ∃ en1, ftg d en = .ok () en1 ∧ ((∃ en2, fb en1 = .nx en2 ∧ I ds en2) ∨ (∃ en2, fb en1 = .cnt en2 ∧ I ds en2) ∨ (∃ en2, fb en1 = .brk en2 ∧ Po (.nx en2)) ∨ ∃ r en2, fb en1 = .ret r en2 ∧ Po (.ret r en2)))
    (he : ∀ en, I [] en → Po (.nx en)) : ∀ (ds : List D) (en : Fr), I ds en → Po (forGo ftg fb ds en)
  | [], en, i => he en i
  | d :: ds, en, i => by
    obtain ⟨en1, e1, q⟩ := h d ds en i
    unfold forGo
    rw [e1]; simp only
    rcases q with ⟨en2, e2, i'⟩ | ⟨en2, e2, i'⟩ | ⟨en2, e2, p⟩ | ⟨r, en2, e2, p⟩
    · rw [e2]; exact forGo_wp I h he ds en2 i'
    · rw [e2]; exact forGo_wp I h he ds en2 i'
    · rw [e2]; exact p
    · rw [e2]; exact p
/-- no way out: the frames go by a step -/
theorem forGo_nx {ftg : D → M Unit} {fb : Fr → SRes} {S : Type} (F : S → Fr) (st : D → S → S) : ∀ (ds : List D) (s : S),
    (∀ d ∈ ds, ∀ s, ∃ en1, ftg d (F s) = .ok () en1 ∧ fb en1 = .nx (F (st d s))) → forGo ftg fb ds (F s) = .nx (F (ds.foldl (fun s d => st d s) s))
  | [], s, _ => rfl
  | d :: ds, s, h => by
    obtain ⟨en1, e1, e2⟩ := h d (List.mem_cons_self ..) s
    unfold forGo
    rw [e1]; simp only
    rw [e2]
    exact forGo_nx F st ds _ fun d hd => h d (List.mem_cons_of_mem _ hd)
end Mi
namespace Mi
open PySem PySem.Spec L2
theorem comp_ev {own : List (Str × Nat)} {elt : CE} {tg : Tg} {it : CI} {ifs : CEs} {en en1 en2 en3 en4 : Fr} {ds ys : List D} (h1 : evI it en = .ok (.fz ds) en1) (h2 : wipeF (own.map (·.2)) en1 = some en2) (h3 : ds.length ≤ most)
    (h4 : compGo (own.map (·.2)) (evTg tg) (evIf ifs) (evE elt) ds en2 = .ok ys en3) (h5 : backAt (own.map (·.2)) 0 en1 en3 = en4) : evE (.comp own elt tg it ifs) en = .ok (.val (.list ys) true) en4 := by
  show evComp _ _ _ _ _ en = _
  unfold evComp
  rw [h1]; simp only
  unfold compIn
  rw [h2]; simp only
  rw [if_pos h3, h4]; simp only
  rw [h5]
theorem for_ev {tg : Tg} {it : CI} {body : CSs} {en en1 : Fr} {ds : List D} (h1 : evI it en = .ok (.fz ds) en1) : evS (.for_ tg it body) en = forGo (evTg tg) (evSs body) ds en1 := by
  show xFor _ _ _ en = _
  unfold xFor
  rw [h1]
end Mi
namespace Mi
open PySem PySem.Spec L2
mutual
def sameD : D → D → Bool
  | .none, w => match w with
    | .none => true
    | _ => false
  | .bool a, w => match w with
    | .bool b => a == b
    | _ => false
  | .int a, w => match w with
    | .int b => a == b
    | _ => false
  | .str a, w => match w with
    | .str b => a == b
    | _ => false
  | .list a, w => match w with
    | .list b => sameDs a b
    | _ => false
  | .tuple a, w => match w with
    | .tuple b => sameDs a b
    | _ => false
  | .dict _, _ => false
def sameDs : List D → List D → Bool
  | [], w => match w with
    | [] => true
    | _ => false
  | a :: r, w => match w with
    | b :: s => sameD a b && sameDs r s
    | _ => false
end
mutual
theorem sameD_eq : ∀ (a b : D), sameD a b = true → a = b
  | .none, b, h => by unfold sameD at h; split at h <;> first | rfl | cases h
  | .bool a, b, h => by unfold sameD at h; split at h <;> first | (have := eq_of_beq h; subst this; rfl) | cases h
  | .int a, b, h => by unfold sameD at h; split at h <;> first | (have := eq_of_beq h; subst this; rfl) | cases h
  | .str a, b, h => by unfold sameD at h; split at h <;> first | (have := eq_of_beq h; subst this; rfl) | cases h
  | .list a, b, h => by
    unfold sameD at h
    split at h
    · rw [sameDs_eq _ _ h]
    · cases h
  | .tuple a, b, h => by
    unfold sameD at h
    split at h
    · rw [sameDs_eq _ _ h]
    · cases h
  | .dict _, b, h => by unfold sameD at h; cases h
theorem sameDs_eq : ∀ (a b : List D), sameDs a b = true → a = b
  | [], b, h => by unfold sameDs at h; split at h <;> first | rfl | cases h
  | a :: r, b, h => by
    unfold sameDs at h
    split at h
    · rw [Bool.and_eq_true] at h
      rw [sameD_eq _ _ h.1, sameDs_eq _ _ h.2]
    · cases h
end
/-- the call gives this value -/
def gives (r : FRes) (d : D) : Bool := match r with
  | .ok e false none => sameD e d
  | _ => false
theorem gives_eq {r : FRes} {d : D} (h : gives r d = true) : r = .ok d false none := by
  unfold gives at h
  split at h
  · rw [sameD_eq _ _ h]
  · cases h
end Mi
namespace Mi
open PySem PySem.Spec L2
theorem foldl_fst {α β γ : Type} {st : α × β → γ → α × β} {f : α → γ → α} (h : ∀ s d, (st s d).1 = f s.1 d) : ∀ (ds : List γ) (s : α × β), (ds.foldl st s).1 = ds.foldl f s.1
  | [], _ => rfl
  | d :: ds, s => by rw [List.foldl_cons, List.foldl_cons, foldl_fst h ds, h]
/-- a slot not set yet, or set to a value -/
def ov : Option D → Sl
  | none => .un
  | some d => .val d
/-- as forGo_nx, the loop's variable apart -/
theorem forGo_acc {α : Type} {ftg : D → M Unit} {fb : Fr → SRes} (F : α → Sl → Fr) (f : α → D → α) (ds : List D) (a : α) (y : Option D)
    (h : ∀ d ∈ ds, ∀ a y, ∃ en1, ftg d (F a (ov y)) = .ok () en1 ∧ ∃ y', fb en1 = .nx (F (f a d) (ov y'))) : ∃ y', forGo ftg fb ds (F a (ov y)) = .nx (F (ds.foldl f a) (ov y')) := by
  induction ds generalizing a y with
  | nil => exact ⟨y, rfl⟩
  | cons d ds ih =>
    obtain ⟨en1, e1, y1, e2⟩ := h d (List.mem_cons_self ..) a y
    obtain ⟨y2, e3⟩ := ih (f a d) y1 fun d hd => h d (List.mem_cons_of_mem _ hd)
    refine ⟨y2, ?_⟩
    unfold forGo
    rw [e1]; simp only
    rw [e2]
    exact e3
end Mi
namespace Mi
open PySem PySem.Spec L2
theorem rng1_ok {i : Int} {fr : Bool} (h : 0 ≤ i) (h2 : i < 1000000) : rng1 [.val (.int i) fr] = some (rngD 0 i.toNat) := by
  show (if wid 4611686018427387904 i = true then some (rngD 0 i.toNat) else none) = _
  rw [if_pos (wid_iff.mpr ⟨by omega, by omega⟩)]
theorem rng2_ok {i j : Int} {fr fr' : Bool} (h : -1000000 ≤ i) (h2 : i < 1000000) (h3 : -1000000 ≤ j) (h4 : j < 1000000) : rng2 [.val (.int i) fr, .val (.int j) fr'] = some (rngD i (j - i).toNat) := by
  show (if wid 4611686018427387904 i = true ∧ wid 4611686018427387904 j = true then some (rngD i (j - i).toNat) else none) = _
  rw [if_pos ⟨wid_iff.mpr ⟨by omega, by omega⟩, wid_iff.mpr ⟨by omega, by omega⟩⟩]
theorem smallB_ok {i : Int} (h : 0 ≤ i) (h2 : i < 1000000000) : smallB i = true := wid_iff.mpr ⟨by omega, by omega⟩
theorem posB_ok {i : Int} (h : 0 < i) (h2 : i < 1000000000) : posB i = true := by
  cases i with
  | negSucc k => omega
  | ofNat k =>
    cases k with
    | zero => exact absurd h (by decide)
    | succ k =>
      show Nat.blt (k + 1) 18446744073709551616 = true
      rw [Nat.blt_eq]
      rw [Int.ofNat_eq_natCast] at h2
      omega
end Mi
namespace Mi
open PySem PySem.Spec L2
theorem gEq_s {d e : D} (h : scalD d e = true) : gEq d e = some (.bool (PyData.eqv d e), false) := by
  unfold gEq eqB
  rw [h]; rfl
theorem gNe_s {d e : D} (h : scalD d e = true) : gNe d e = some (.bool (!PyData.eqv d e), false) := by
  unfold gNe eqB
  rw [h]; rfl
theorem bools_map {α : Type} (f : α → Bool) : ∀ l : List α, boolsOf (l.map fun s => .bool (f s)) = some (l.map f)
  | [] => rfl
  | x :: r => by
    rw [List.map_cons, List.map_cons]
    show (boolsOf (r.map fun s => .bool (f s))).map _ = _
    rw [bools_map f r]
    rfl
theorem cut_from1 (ds : List D) : cutD ds (some 1) none = ds.drop 1 := by
  unfold cutD
  rw [show HT.sIx ds.length 0 (some 1) = min 1 ds.length from HT.sIx_nat ds.length 0 1, HT.sIx_none]
  cases ds with
  | nil => rfl
  | cons x r =>
    rw [show min 1 (x :: r).length = 1 by rw [List.length_cons]; omega]
    show List.take ((x :: r).length - 1) r = r
    rw [List.length_cons, Nat.add_sub_cancel, List.take_length]
theorem zip_mem {xs ys : List D} {d : D} (h : d ∈ zipD xs ys) : ∃ (i : Nat) (x y : D), xs[i]? = some x ∧ ys[i]? = some y ∧ d = .tuple [x, y] := by
  obtain ⟨i, e⟩ := List.mem_iff_getElem?.mp h
  obtain ⟨x, y, e1, e2, e3⟩ := zip_get xs ys i d e
  exact ⟨i, x, y, e1, e2, e3⟩
theorem enum_mem {xs : List D} {d : D} (h : d ∈ enumFrom 0 xs) : ∃ (i : Nat) (x : D), xs[i]? = some x ∧ d = .tuple [.int (i : Int), x] := by
  obtain ⟨i, e⟩ := List.mem_iff_getElem?.mp h
  obtain ⟨y, e1, e2⟩ := enum_get xs 0 i d e
  exact ⟨i, y, e1, by rw [e2, Nat.zero_add]⟩
end Mi
namespace Mi
open PySem PySem.Spec L2
theorem gEq_int {i j : Int} : gEq (.int i) (.int j) = some (.bool (i == j), false) := gEq_s rfl
theorem gNe_int {i j : Int} : gNe (.int i) (.int j) = some (.bool (!(i == j)), false) := gNe_s rfl
theorem gEq_str {i j : Str} : gEq (.str i) (.str j) = some (.bool (i == j), false) := gEq_s rfl
theorem gNe_str {i j : Str} : gNe (.str i) (.str j) = some (.bool (!(i == j)), false) := gNe_s rfl
theorem gEq_bool {i j : Bool} : gEq (.bool i) (.bool j) = some (.bool (i == j), false) := gEq_s rfl
theorem gNe_bool {i j : Bool} : gNe (.bool i) (.bool j) = some (.bool (!(i == j)), false) := gNe_s rfl
end Mi
namespace Mi
open PySem PySem.Spec L2
theorem tyD_str {x : Str} : tyD "str" (.str x) = true := rfl
theorem tyD_list {x : List D} : tyD "list" (.list x) = true := rfl
theorem join_g {a : Str} {xs : List D} {ys : List Str} (h : strsOf xs = some ys) (c : (ys.map (·.length)).sum + ys.length * a.length ≤ most) : meG .join (.str a) [.list xs] = some (.str (Txt.join a ys), false) := by
  show (strsOf xs).bind _ = _
  rw [h]
  show (if _ then _ else _) = _
  rw [if_pos c]
theorem split_g {a b : Str} (h : (b.length == 0) = false) (c : a.length + 2 ≤ most) : meG .split (.str a) [.str b] = some (.list ((Txt.split a b).map .str), true) := by
  show (if _ then _ else _) = _
  rw [if_pos ⟨h, c⟩]
theorem strs_map {α : Type} (f : α → Str) : ∀ l : List α, strsOf (l.map fun s => .str (f s)) = some (l.map f)
  | [] => rfl
  | x :: r => by
    rw [List.map_cons, List.map_cons]
    show (strsOf (r.map fun s => .str (f s))).map _ = _
    rw [strs_map f r]
    rfl
end Mi
namespace Mi
open PySem PySem.Spec L2
theorem compGo_map2 {α : Type} {own : List Nat} {ftg : D → M Unit} {ft : M Bool} {fe : M RV} {en : Fr} {a b : α → D} : ∀ (l : List α),
    (∀ s ∈ l, ∃ en1 en2 en3 fr, ftg (a s) en = .ok () en1 ∧ ft en1 = .ok true en2 ∧ fe en2 = .ok (.val (b s) fr) en3 ∧ wipeF own en3 = some en) → compGo own ftg ft fe (l.map a) en = .ok (l.map b) en
  | [], _ => rfl
  | d :: ds, h => by
    obtain ⟨en1, en2, en3, fr, e1, e2, e3, e4⟩ := h d (List.mem_cons_self ..)
    rw [List.map_cons, List.map_cons]
    unfold compGo
    rw [e1]; simp only
    rw [e2]; simp only
    rw [e3]; simp only
    rw [e4]; simp only
    rw [compGo_map2 ds fun d hd => h d (List.mem_cons_of_mem _ hd)]
theorem gEq_nil : gEq (.list []) (.list []) = some (.bool true, false) := rfl
end Mi
set_option Elab.async false
set_option linter.all false
set_option maxRecDepth 100000
set_option autoImplicit false
namespace Mi
open PySem PySem.Spec L2
open PyProof.Rows (envOfC)
def d_RULES : D := (.tuple [(.str "eager"), (.str "polite"), (.str "gap")])
def d_MOST_BUSY : D := (.int 3)
def d_KINDS : D := (.tuple [(.str "a"), (.str "ab"), (.str "abc")])
def d_MOST_STANDS : D := (.int 3000)
def d_FIGURES : D := (.str "0123456789")
abbrev n__law_deck : List Str := ["cell", "turn"]
def b__law_deck : CSs :=
  (.cons (.if_ (.cmp .GtE (.var 0) (.bin .Pow (.lit (.int 10)) (.lit (.int 18)))) (.cons (.ret (.lst (.cons (.bin .Sub (.var 0) (.bin .Pow (.lit (.int 10)) (.lit (.int 18)))) (.cons (.bin .Mod (.var 0) (.lit (.int 2147483579))) (.cons (.var 1) .nil)))))
    .nil) .nil)
  (.cons (.ret (.lst (.cons (.lit (.int 0)) (.cons (.bin .Mod (.var 0) (.lit (.int 2147483579))) (.cons (.var 1) .nil)))))
  .nil))
def g__law_deck : FSem := gOf n__law_deck b__law_deck

abbrev n__law_known : List Str := ["last", "some"]
def b__law_known : CSs :=
  (.cons (.set 0 (.tup (.cons (.lit (.str "picker")) (.cons (.lit (.int 2)) (.cons (.lit (.str "a")) (.cons (.lit (.int 0)) .nil))))))
  (.cons (.own 1 (.lst (.cons (.tup (.cons (.lit (.int 2)) (.cons (.lit (.str "a")) (.cons (.tup (.cons (.tup (.cons (.lit (.str "hatch")) (.cons (.lit (.int 0)) (.cons (.lit (.str "eager")) .nil)))) (.cons (.tup (.cons (.lit (.str "picker")) (.cons (.lit (.int 1)) (.cons (.lit (.str "a")) (.cons (.lit (.int 0)) .nil))))) .nil))) .nil)))) .nil)))
  (.cons (.expr (.app 1 (.tup (.cons (.lit (.int 3)) (.cons (.lit (.str "a")) (.cons (.tup (.cons (.tup (.cons (.lit (.str "hatch")) (.cons (.lit (.int 0)) (.cons (.lit (.str "eager")) .nil)))) (.cons (.tup (.cons (.lit (.str "hatch")) (.cons (.lit (.int 1)) (.cons (.lit (.str "eager")) .nil)))) (.cons (.var 0) .nil)))) .nil))))))
  (.cons (.expr (.app 1 (.tup (.cons (.lit (.int 3)) (.cons (.lit (.str "a")) (.cons (.tup (.cons (.tup (.cons (.lit (.str "hatch")) (.cons (.lit (.int 0)) (.cons (.lit (.str "gap")) .nil)))) (.cons (.tup (.cons (.lit (.str "hatch")) (.cons (.lit (.int 1)) (.cons (.lit (.str "eager")) .nil)))) (.cons (.var 0) .nil)))) .nil))))))
  (.cons (.ret (.bin .Add (.var 1) (.lst (.cons (.tup (.cons (.lit (.int 2)) (.cons (.lit (.str "ab")) (.cons (.tup (.cons (.tup (.cons (.lit (.str "hatch")) (.cons (.lit (.int 0)) (.cons (.lit (.str "eager")) .nil)))) (.cons (.tup (.cons (.lit (.str "picker")) (.cons (.lit (.int 1)) (.cons (.lit (.str "ab")) (.cons (.lit (.int 0)) .nil))))) .nil))) .nil)))) .nil))))
  .nil)))))
def g__law_known : FSem := gOf n__law_known b__law_known

abbrev n__law_text : List Str := ["belt", "lines", "station", "words"]
def q1__law_text : CSs := (.cons (.own 3 (.lst (.cons (.idx (.var 2) (.lit (.int 0))) (.cons (.bi .str (.cons (.idx (.var 2) (.lit (.int 1))) .nil)) (.cons (.idx (.var 2) (.lit (.int 2))) .nil)))))
    (.cons (.if_ (.cmp .Eq (.idx (.var 2) (.lit (.int 0))) (.lit (.str "picker"))) (.cons (.expr (.app 3 (.bi .str (.cons (.idx (.var 2) (.lit (.int 3))) .nil))))
      .nil) .nil)
    (.cons (.expr (.app 1 (.meth .join (.lit (.str " ")) (.cons (.var 3) .nil))))
    .nil)))
def l1__law_text : CS := (.for_ (.name 2) (.seq (.idx (.var 0) (.lit (.int 2)))) q1__law_text)
def b__law_text : CSs :=
  (.cons (.own 1 (.lst (.cons (.bin .Add (.bin .Add (.bin .Add (.lit (.str "belt ")) (.bi .str (.cons (.idx (.var 0) (.lit (.int 0))) .nil))) (.lit (.str " "))) (.idx (.var 0) (.lit (.int 1)))) .nil)))
  (.cons l1__law_text
  (.cons (.ret (.meth .join (.lit (.str "\n")) (.cons (.var 1) .nil)))
  .nil)))
def g__law_text : FSem := gOf n__law_text b__law_text

abbrev n__law_pick : List Str := ["deck", "size", "found", "number"]
def b__law_pick : CSs :=
  (.cons (.if_ (.cmp .Gt (.idx (.var 0) (.lit (.int 0))) (.lit (.int 1))) (.cons (.set 2 (.bin .Mod (.bi .int (.cons (.idx (.var 0) (.lit (.int 0))) .nil)) (.var 1)))
    (.cons (.asg (.sub 0 (.lit (.int 0))) (.bin .FloorDiv (.idx (.var 0) (.lit (.int 0))) (.var 1)))
    (.cons (.ret (.var 2))
    .nil))) .nil)
  (.cons (.asg (.sub 0 (.lit (.int 2))) (.bin .Add (.idx (.var 0) (.lit (.int 2))) (.lit (.int 1))))
  (.cons (.set 3 (.bin .Mod (.bin .Pow (.bin .Add (.idx (.var 0) (.lit (.int 1))) (.bin .Mult (.lit (.int 15485867)) (.idx (.var 0) (.lit (.int 2))))) (.lit (.int 5))) (.lit (.int 2147483647))))
  (.cons (.set 2 (.bin .FloorDiv (.bin .Mod (.bin .Pow (.bin .Add (.var 3) (.bin .Mult (.lit (.int 7919)) (.idx (.var 0) (.lit (.int 2))))) (.lit (.int 3))) (.lit (.int 2147483629))) (.lit (.int 32))))
  (.cons (.ret (.bin .Mod (.bi .int (.cons (.var 2) .nil)) (.var 1)))
  .nil)))))
def g__law_pick : FSem := gOf n__law_pick b__law_pick

abbrev n__law_one : List Str := ["deck", "some"]
def b__law_one : CSs :=
  (.cons (.ret (.idx (.var 1) (.call "_law_pick" 2 g__law_pick (.cons (.var 0) (.cons (.bi .len (.cons (.var 1) .nil)) .nil)))))
  .nil)
def g__law_one : FSem := gOf n__law_one b__law_one

abbrev n__law_station : List Str := ["deck", "place", "kinds", "least", "wishes", "turn"]
def c1__law_station : CE := (.comp [("turn", 5)] (.call "_law_one" 2 g__law_one (.cons (.var 0) (.cons (.bi .list (.cons (.var 2) .nil)) .nil))) (.name 5) (.rng1 (.bin .Add (.lit (.int 1)) (.call "_law_pick" 2 g__law_pick (.cons (.var 0) (.cons (.lit (.int 2)) .nil))))) .nil)
def b__law_station : CSs :=
  (.cons (.if_ (.bool false (.cons (.var 3) (.cons (.cmp .Eq (.call "_law_pick" 2 g__law_pick (.cons (.var 0) (.cons (.lit (.int 2)) .nil))) (.lit (.int 0))) .nil))) (.cons (.ret (.tup (.cons (.lit (.str "hatch")) (.cons (.var 1) (.cons (.call "_law_one" 2 g__law_one (.cons (.var 0) (.cons (.lst (.cons (.lit (.str "eager")) (.cons (.lit (.str "eager")) (.cons (.lit (.str "polite")) (.cons (.lit (.str "gap")) .nil))))) .nil))) .nil)))))
    .nil) .nil)
  (.cons (.set 4 (.meth .join (.lit (.str "")) (.cons c1__law_station .nil)))
  (.cons (.ret (.tup (.cons (.lit (.str "picker")) (.cons (.var 1) (.cons (.var 4) (.cons (.call "_law_one" 2 g__law_one (.cons (.var 0) (.cons (.lst (.cons (.lit (.int 0)) (.cons (.lit (.int 0)) (.cons (.lit (.int 1)) (.cons (.lit (.int 2)) .nil))))) .nil))) .nil))))))
  .nil)))
def g__law_station : FSem := gOf n__law_station b__law_station

abbrev n__law_states : List Str := ["station", "kinds"]
def b__law_states : CSs :=
  (.cons (.if_ (.cmp .Eq (.idx (.var 0) (.lit (.int 0))) (.lit (.str "hatch"))) (.cons (.ret (.bin .Mult (.bin .Add (.bi .len (.cons (.var 1) .nil)) (.lit (.int 1))) (.ite (.cmp .Eq (.idx (.var 0) (.lit (.int 2))) (.lit (.str "gap"))) (.lit (.int 2)) (.lit (.int 1)))))
    .nil) .nil)
  (.cons (.ret (.bin .Mult (.bi .len (.cons (.idx (.var 0) (.lit (.int 2))) .nil)) (.bin .Add (.idx (.var 0) (.lit (.int 3))) (.lit (.int 1)))))
  .nil))
def g__law_states : FSem := gOf n__law_states b__law_states

abbrev n__law_product : List Str := ["belt", "found", "slot", "station"]
def q1__law_product : CSs := (.cons (.set 1 (.bin .Mult (.var 1) (.bin .Add (.bi .len (.cons (.idx (.var 0) (.lit (.int 1))) .nil)) (.lit (.int 1)))))
    .nil)
def l1__law_product : CS := (.for_ (.name 2) (.rng1 (.idx (.var 0) (.lit (.int 0)))) q1__law_product)
def q2__law_product : CSs := (.cons (.set 1 (.bin .Mult (.var 1) (.call "_law_states" 2 g__law_states (.cons (.var 3) (.cons (.idx (.var 0) (.lit (.int 1))) .nil)))))
    .nil)
def l2__law_product : CS := (.for_ (.name 3) (.seq (.idx (.var 0) (.lit (.int 2)))) q2__law_product)
def b__law_product : CSs :=
  (.cons (.set 1 (.lit (.int 1)))
  (.cons l1__law_product
  (.cons l2__law_product
  (.cons (.ret (.var 1))
  .nil))))
def g__law_product : FSem := gOf n__law_product b__law_product

abbrev n__law_drawn : List Str := ["deck", "most", "turn", "slots", "kinds", "places", "place", "first", "stations", "k", "belt"]
def c1__law_drawn : CE := (.comp [("place", 6)] (.var 6) (.name 6) (.rng1 (.var 3)) (.cons (.cmp .Gt (.call "_law_pick" 2 g__law_pick (.cons (.var 0) (.cons (.lit (.int 3)) .nil))) (.lit (.int 0))) .nil))
def o1__law_drawn : CE := (.bi .sorted (.cons (.slc c1__law_drawn .nil (.cons (.lit (.int 4)) .nil)) .nil))
def c2__law_drawn : CE := (.comp [("k", 9), ("place", 6)] (.call "_law_station" 4 g__law_station (.cons (.var 0) (.cons (.var 6) (.cons (.var 4) (.cons (.cmp .Eq (.var 9) (.var 7)) .nil))))) (.tup (.cons (.name 9) (.cons (.name 6) .nil))) (.enum (.var 5)) .nil)
def q1__law_drawn : CSs := (.cons (.asg (.tup (.cons (.name 3) (.cons (.name 4) .nil))) (.tup (.cons (.bin .Add (.lit (.int 2)) (.call "_law_pick" 2 g__law_pick (.cons (.var 0) (.cons (.lit (.int 4)) .nil)))) (.cons (.call "_law_one" 2 g__law_one (.cons (.var 0) (.cons (.lst (.cons (.lit (.str "a")) (.cons (.lit (.str "a")) (.cons (.lit (.str "ab")) (.cons (.lit (.str "ab")) (.cons (.lit (.str "abc")) .nil)))))) .nil))) .nil))))
    (.cons (.set 5 o1__law_drawn)
    (.cons (.set 7 (.call "_law_pick" 2 g__law_pick (.cons (.var 0) (.cons (.bi .max2 (.cons (.lit (.int 1)) (.cons (.bi .len (.cons (.var 5) .nil)) .nil))) .nil))))
    (.cons (.set 8 c2__law_drawn)
    (.cons (.set 10 (.tup (.cons (.var 3) (.cons (.var 4) (.cons (.bi .tuple (.cons (.var 8) .nil)) .nil)))))
    (.cons (.if_ (.bool true (.cons (.cmp .NotEq (.var 5) (.lst .nil)) (.cons (.cmp .LtE (.call "_law_product" 1 g__law_product (.cons (.var 10) .nil)) (.var 1)) .nil))) (.cons (.ret (.var 10))
      .nil) .nil)
    .nil))))))
def l1__law_drawn : CS := (.for_ (.name 2) (.rng1 (.lit (.int 20))) q1__law_drawn)
def b__law_drawn : CSs :=
  (.cons l1__law_drawn
  (.cons (.ret (.tup (.cons (.lit (.int 3)) (.cons (.lit (.str "a")) (.cons (.tup (.cons (.tup (.cons (.lit (.str "hatch")) (.cons (.call "_law_pick" 2 g__law_pick (.cons (.var 0) (.cons (.lit (.int 2)) .nil))) (.cons (.lit (.str "eager")) .nil)))) (.cons (.tup (.cons (.lit (.str "picker")) (.cons (.lit (.int 2)) (.cons (.lit (.str "a")) (.cons (.call "_law_pick" 2 g__law_pick (.cons (.var 0) (.cons (.lit (.int 2)) .nil))) .nil))))) .nil))) .nil)))))
  .nil))
def g__law_drawn : FSem := gOf n__law_drawn b__law_drawn

abbrev n__law_sort : List Str := ["thing"]
def b__law_sort : CSs :=
  (.cons (.if_ (.isi (.var 0) .bool) (.cons (.ret (.lit (.int 1)))
    .nil) .nil)
  (.cons (.if_ (.isi (.var 0) .int) (.cons (.ret (.lit (.int 2)))
    .nil) .nil)
  (.cons (.if_ (.isi (.var 0) .str) (.cons (.ret (.lit (.int 3)))
    .nil) .nil)
  (.cons (.if_ (.isi (.var 0) .list) (.cons (.ret (.lit (.int 4)))
    .nil) .nil)
  (.cons (.ret (.ite (.isi (.var 0) .tuple) (.lit (.int 5)) (.lit (.int 6))))
  .nil)))))
def g__law_sort : FSem := gOf n__law_sort b__law_sort

abbrev n__law_same : List Str := ["told", "due", "k", "part"]
def c1__law_same (g__law_same : FSem) : CE := (.comp [("k", 2), ("part", 3)] (.var 2) (.tup (.cons (.name 2) (.cons (.name 3) .nil))) (.enum (.var 0)) (.cons (.not (.call "_law_same" 2 g__law_same (.cons (.var 3) (.cons (.idx (.var 1) (.var 2)) .nil)))) .nil))
def b__law_same (g__law_same : FSem) : CSs :=
  (.cons (.if_ (.cmp .NotEq (.call "_law_sort" 1 g__law_sort (.cons (.var 0) .nil)) (.call "_law_sort" 1 g__law_sort (.cons (.var 1) .nil))) (.cons (.ret (.lit (.bool false)))
    .nil) .nil)
  (.cons (.if_ (.bool true (.cons (.cmp .Gt (.call "_law_sort" 1 g__law_sort (.cons (.var 0) .nil)) (.lit (.int 3))) (.cons (.cmp .Lt (.call "_law_sort" 1 g__law_sort (.cons (.var 0) .nil)) (.lit (.int 6))) .nil))) (.cons (.if_ (.cmp .NotEq (.bi .len (.cons (.var 0) .nil)) (.bi .len (.cons (.var 1) .nil))) (.cons (.ret (.lit (.bool false)))
      .nil) .nil)
    (.cons (.ret (.cmp .Eq (c1__law_same g__law_same) (.lst .nil)))
    .nil)) .nil)
  (.cons (.ret (.cmp .Eq (.var 0) (.var 1)))
  .nil)))
def g__law_same : Nat → FSem
  | 0 => fun _ _ => .err
  | n + 1 => gOf n__law_same (b__law_same (g__law_same n))

abbrev n_is_within : List Str := ["value", "low", "high"]
def b_is_within : CSs :=
  (.cons (.ret (.bool true (.cons (.isi (.var 0) .int) (.cons (.not (.isi (.var 0) .bool)) (.cons (.chain .LtE .LtE (.var 1) (.var 0) (.var 2)) .nil)))))
  .nil)
def g_is_within : FSem := gOf n_is_within b_is_within

abbrev n_is_hatch : List Str := ["station"]
def b_is_hatch : CSs :=
  (.cons (.ret (.cmp .Eq (.idx (.var 0) (.lit (.int 0))) (.lit (.str "hatch"))))
  .nil)
def g_is_hatch : FSem := gOf n_is_hatch b_is_hatch

abbrev n_states_of : List Str := ["station", "kinds"]
def b_states_of : CSs :=
  (.cons (.if_ (.call "is_hatch" 1 g_is_hatch (.cons (.var 0) .nil)) (.cons (.ret (.bin .Mult (.bin .Add (.bi .len (.cons (.var 1) .nil)) (.lit (.int 1))) (.ite (.cmp .Eq (.idx (.var 0) (.lit (.int 2))) (.lit (.str "gap"))) (.lit (.int 2)) (.lit (.int 1)))))
    .nil) .nil)
  (.cons (.ret (.bin .Mult (.bi .len (.cons (.idx (.var 0) (.lit (.int 2))) .nil)) (.bin .Add (.idx (.var 0) (.lit (.int 3))) (.lit (.int 1)))))
  .nil))
def g_states_of : FSem := gOf n_states_of b_states_of

abbrev n_product_of : List Str := ["belt", "slots", "kinds", "stations", "found", "slot", "station"]
def q1_product_of : CSs := (.cons (.set 4 (.bin .Mult (.var 4) (.bin .Add (.bi .len (.cons (.var 2) .nil)) (.lit (.int 1)))))
    .nil)
def l1_product_of : CS := (.for_ (.name 5) (.rng1 (.var 1)) q1_product_of)
def q2_product_of : CSs := (.cons (.set 4 (.bin .Mult (.var 4) (.call "states_of" 2 g_states_of (.cons (.var 6) (.cons (.var 2) .nil)))))
    .nil)
def l2_product_of : CS := (.for_ (.name 6) (.seq (.var 3)) q2_product_of)
def b_product_of : CSs :=
  (.cons (.asg (.tup (.cons (.name 1) (.cons (.name 2) (.cons (.name 3) .nil)))) (.var 0))
  (.cons (.set 4 (.lit (.int 1)))
  (.cons l1_product_of
  (.cons l2_product_of
  (.cons (.ret (.var 4))
  .nil)))))
def g_product_of : FSem := gOf n_product_of b_product_of

abbrev n_is_wishes : List Str := ["value", "kinds", "kind"]
def c1_is_wishes : CE := (.comp [("kind", 2)] (.cmp .In (.var 2) (.var 1)) (.name 2) (.seq (.var 0)) .nil)
def b_is_wishes : CSs :=
  (.cons (.ret (.bool true (.cons (.isi (.var 0) .str) (.cons (.chain .LtE .LtE (.lit (.int 1)) (.bi .len (.cons (.var 0) .nil)) (.lit (.int 3))) (.cons (.bi .all (.cons c1_is_wishes .nil)) .nil)))))
  .nil)
def g_is_wishes : FSem := gOf n_is_wishes b_is_wishes

abbrev n_is_station : List Str := ["value", "slots", "kinds"]
def b_is_station : CSs :=
  (.cons (.if_ (.bool false (.cons (.not (.isi (.var 0) .tuple)) (.cons (.cmp .NotIn (.bi .len (.cons (.var 0) .nil)) (.tup (.cons (.lit (.int 3)) (.cons (.lit (.int 4)) .nil)))) (.cons (.not (.isi (.idx (.var 0) (.lit (.int 0))) .str)) .nil)))) (.cons (.ret (.lit (.bool false)))
    .nil) .nil)
  (.cons (.if_ (.not (.call "is_within" 3 g_is_within (.cons (.idx (.var 0) (.lit (.int 1))) (.cons (.lit (.int 0)) (.cons (.bin .Sub (.var 1) (.lit (.int 1))) .nil))))) (.cons (.ret (.lit (.bool false)))
    .nil) .nil)
  (.cons (.if_ (.cmp .Eq (.idx (.var 0) (.lit (.int 0))) (.lit (.str "hatch"))) (.cons (.ret (.bool true (.cons (.cmp .Eq (.bi .len (.cons (.var 0) .nil)) (.lit (.int 3))) (.cons (.isi (.idx (.var 0) (.lit (.int 2))) .str) (.cons (.cmp .In (.idx (.var 0) (.lit (.int 2))) (.glob "RULES" d_RULES)) .nil)))))
    .nil) .nil)
  (.cons (.ret (.bool true (.cons (.cmp .Eq (.idx (.var 0) (.lit (.int 0))) (.lit (.str "picker"))) (.cons (.cmp .Eq (.bi .len (.cons (.var 0) .nil)) (.lit (.int 4))) (.cons (.call "is_wishes" 2 g_is_wishes (.cons (.idx (.var 0) (.lit (.int 2))) (.cons (.var 2) .nil))) (.cons (.call "is_within" 3 g_is_within (.cons (.idx (.var 0) (.lit (.int 3))) (.cons (.lit (.int 0)) (.cons (.glob "MOST_BUSY" d_MOST_BUSY) .nil)))) .nil))))))
  .nil))))
def g_is_station : FSem := gOf n_is_station b_is_station

abbrev n_is_belt_value : List Str := ["value", "slots", "kinds", "stations", "station", "one", "other"]
def c1_is_belt_value : CE := (.comp [("station", 4)] (.call "is_station" 3 g_is_station (.cons (.var 4) (.cons (.var 1) (.cons (.var 2) .nil)))) (.name 4) (.seq (.var 3)) .nil)
def c2_is_belt_value : CE := (.comp [("one", 5), ("other", 6)] (.cmp .Lt (.idx (.var 5) (.lit (.int 1))) (.idx (.var 6) (.lit (.int 1)))) (.tup (.cons (.name 5) (.cons (.name 6) .nil))) (.zip (.var 3) (.slc (.var 3) (.cons (.lit (.int 1)) .nil) .nil)) .nil)
def c3_is_belt_value : CE := (.comp [("station", 4)] (.call "is_hatch" 1 g_is_hatch (.cons (.var 4) .nil)) (.name 4) (.seq (.var 3)) .nil)
def b_is_belt_value : CSs :=
  (.cons (.if_ (.bool false (.cons (.not (.isi (.var 0) .tuple)) (.cons (.cmp .NotEq (.bi .len (.cons (.var 0) .nil)) (.lit (.int 3))) (.cons (.not (.call "is_within" 3 g_is_within (.cons (.idx (.var 0) (.lit (.int 0))) (.cons (.lit (.int 2)) (.cons (.lit (.int 6)) .nil))))) .nil)))) (.cons (.ret (.lit (.bool false)))
    .nil) .nil)
  (.cons (.asg (.tup (.cons (.name 1) (.cons (.name 2) (.cons (.name 3) .nil)))) (.var 0))
  (.cons (.if_ (.bool false (.cons (.not (.isi (.var 2) .str)) (.cons (.cmp .NotIn (.var 2) (.glob "KINDS" d_KINDS)) (.cons (.not (.isi (.var 3) .tuple)) .nil)))) (.cons (.ret (.lit (.bool false)))
    .nil) .nil)
  (.cons (.if_ (.bool false (.cons (.not (.chain .LtE .LtE (.lit (.int 1)) (.bi .len (.cons (.var 3) .nil)) (.lit (.int 4)))) (.cons (.not (.bi .all (.cons c1_is_belt_value .nil))) .nil))) (.cons (.ret (.lit (.bool false)))
    .nil) .nil)
  (.cons (.if_ (.not (.bi .all (.cons c2_is_belt_value .nil))) (.cons (.ret (.lit (.bool false)))
    .nil) .nil)
  (.cons (.ret (.bool true (.cons (.bi .any (.cons c3_is_belt_value .nil)) (.cons (.cmp .LtE (.call "product_of" 1 g_product_of (.cons (.var 0) .nil)) (.glob "MOST_STANDS" d_MOST_STANDS)) .nil))))
  .nil))))))
def g_is_belt_value : FSem := gOf n_is_belt_value b_is_belt_value

abbrev n_need_belt : List Str := ["value"]
def b_need_belt : CSs :=
  (.cons (.if_ (.not (.call "is_belt_value" 1 g_is_belt_value (.cons (.var 0) .nil))) (.cons .never
    .nil) .nil)
  .nil)
def g_need_belt : FSem := gOf n_need_belt b_need_belt

abbrev n_station_line : List Str := ["station", "part"]
def c1_station_line : CE := (.comp [("part", 1)] (.bi .str (.cons (.var 1) .nil)) (.name 1) (.seq (.var 0)) .nil)
def b_station_line : CSs :=
  (.cons (.ret (.meth .join (.lit (.str " ")) (.cons c1_station_line .nil)))
  .nil)
def g_station_line : FSem := gOf n_station_line b_station_line

abbrev n_belt_text : List Str := ["belt", "station"]
def s1_belt_text : CE := (.fstr (.cons (.lit (.str "belt ")) (.cons (.fmt (.idx (.var 0) (.lit (.int 0)))) (.cons (.lit (.str " ")) (.cons (.fmt (.idx (.var 0) (.lit (.int 1)))) .nil)))))
def c1_belt_text : CE := (.comp [("station", 1)] (.call "station_line" 1 g_station_line (.cons (.var 1) .nil)) (.name 1) (.seq (.idx (.var 0) (.lit (.int 2)))) .nil)
def b_belt_text : CSs :=
  (.cons (.expr (.call "need_belt" 1 g_need_belt (.cons (.var 0) .nil)))
  (.cons (.ret (.meth .join (.lit (.str "\n")) (.cons (.bin .Add (.lst (.cons s1_belt_text .nil)) c1_belt_text) .nil)))
  .nil))
def g_belt_text : FSem := gOf n_belt_text b_belt_text

abbrev n_number_of : List Str := ["word"]
def b_number_of : CSs :=
  (.cons (.ret (.ite (.bool true (.cons (.cmp .Eq (.bi .len (.cons (.var 0) .nil)) (.lit (.int 1))) (.cons (.cmp .In (.var 0) (.glob "FIGURES" d_FIGURES)) .nil))) (.meth .sindex (.glob "FIGURES" d_FIGURES) (.cons (.var 0) .nil)) (.lit .none)))
  .nil)
def g_number_of : FSem := gOf n_number_of b_number_of

abbrev n_head_of : List Str := ["line", "words"]
def b_head_of : CSs :=
  (.cons (.set 1 (.meth .split (.var 0) (.cons (.lit (.str " ")) .nil)))
  (.cons (.if_ (.bool false (.cons (.cmp .NotEq (.bi .len (.cons (.var 1) .nil)) (.lit (.int 3))) (.cons (.cmp .NotEq (.idx (.var 1) (.lit (.int 0))) (.lit (.str "belt"))) (.cons (.cmp .NotIn (.idx (.var 1) (.lit (.int 2))) (.glob "KINDS" d_KINDS)) .nil)))) (.cons (.ret (.lit .none))
    .nil) .nil)
  (.cons (.ret (.ite (.cmp .In (.idx (.var 1) (.lit (.int 1))) (.bi .list (.cons (.lit (.str "23456")) .nil))) (.tup (.cons (.call "number_of" 1 g_number_of (.cons (.idx (.var 1) (.lit (.int 1))) .nil)) (.cons (.idx (.var 1) (.lit (.int 2))) .nil))) (.lit .none)))
  .nil)))
def g_head_of : FSem := gOf n_head_of b_head_of

abbrev n_station_of : List Str := ["line", "words", "found"]
def b_station_of : CSs :=
  (.cons (.set 1 (.meth .split (.var 0) (.cons (.lit (.str " ")) .nil)))
  (.cons (.if_ (.bool false (.cons (.cmp .Lt (.bi .len (.cons (.var 1) .nil)) (.lit (.int 3))) (.cons (.cmp .NotIn (.idx (.var 1) (.lit (.int 0))) (.tup (.cons (.lit (.str "hatch")) (.cons (.lit (.str "picker")) .nil)))) .nil))) (.cons (.ret (.lit .none))
    .nil) .nil)
  (.cons (.set 2 (.bin .Add (.tup (.cons (.idx (.var 1) (.lit (.int 0))) (.cons (.call "number_of" 1 g_number_of (.cons (.idx (.var 1) (.lit (.int 1))) .nil)) .nil))) (.bi .tuple (.cons (.slc (.var 1) (.cons (.lit (.int 2)) .nil) .nil) .nil))))
  (.cons (.if_ (.bool true (.cons (.cmp .Eq (.idx (.var 1) (.lit (.int 0))) (.lit (.str "picker"))) (.cons (.cmp .Eq (.bi .len (.cons (.var 1) .nil)) (.lit (.int 4))) .nil))) (.cons (.set 2 (.bin .Add (.slc (.var 2) .nil (.cons (.lit (.int 3)) .nil)) (.tup (.cons (.call "number_of" 1 g_number_of (.cons (.idx (.var 1) (.lit (.int 3))) .nil)) .nil))))
    .nil) .nil)
  (.cons (.ret (.ite (.call "is_station" 3 g_is_station (.cons (.var 2) (.cons (.lit (.int 6)) (.cons (.lit (.str "abc")) .nil)))) (.var 2) (.lit .none)))
  .nil)))))
def g_station_of : FSem := gOf n_station_of b_station_of

abbrev n_read_belt : List Str := ["value", "lines", "head", "stations", "line", "number", "station", "found"]
def c1_read_belt : CE := (.comp [("line", 4)] (.call "station_of" 1 g_station_of (.cons (.var 4) .nil)) (.name 4) (.seq (.slc (.var 1) (.cons (.lit (.int 1)) .nil) .nil)) .nil)
def q1_read_belt : CSs := (.cons (.if_ (.cmp .Is (.var 6) (.lit .none)) (.cons .never
      .nil) .nil)
    .nil)
def l1_read_belt : CS := (.for_ (.tup (.cons (.name 5) (.cons (.name 6) .nil))) (.enum (.var 3)) q1_read_belt)
def b_read_belt : CSs :=
  (.cons (.if_ (.not (.isi (.var 0) .str)) (.cons .never
    .nil) .nil)
  (.cons (.set 1 (.meth .split (.var 0) (.cons (.lit (.str "\n")) .nil)))
  (.cons (.par 2 3 (.call "head_of" 1 g_head_of (.cons (.idx (.var 1) (.lit (.int 0))) .nil)) c1_read_belt)
  (.cons (.if_ (.cmp .Is (.var 2) (.lit .none)) (.cons .never
    .nil) .nil)
  (.cons l1_read_belt
  (.cons (.set 7 (.bin .Add (.var 2) (.tup (.cons (.bi .tuple (.cons (.var 3) .nil)) .nil))))
  (.cons (.if_ (.not (.call "is_belt_value" 1 g_is_belt_value (.cons (.var 7) .nil))) (.cons .never
    .nil) .nil)
  (.cons (.ret (.var 7))
  .nil))))))))
def g_read_belt : FSem := gOf n_read_belt b_read_belt

abbrev n_law : List Str := ["script", "six", "cell", "deck", "belt", "text"]
def q1_law : CSs := (.cons (.set 5 (.call "_law_text" 1 g__law_text (.cons (.var 4) .nil)))
      (.cons (.if_ (.bool false (.cons (.not (.call "_law_same" 2 (g__law_same 4) (.cons (.call "belt_text" 1 g_belt_text (.cons (.var 4) .nil)) (.cons (.var 5) .nil)))) (.cons (.not (.call "_law_same" 2 (g__law_same 4) (.cons (.call "read_belt" 1 g_read_belt (.cons (.var 5) .nil)) (.cons (.var 4) .nil)))) .nil))) (.cons (.ret (.lit (.bool false)))
        .nil) .nil)
      .nil))
def l1_law : CS := (.for_ (.name 4) (.seq (.bin .Add (.lst (.cons (.call "_law_drawn" 2 g__law_drawn (.cons (.var 3) (.cons (.lit (.int 3000)) .nil))) (.cons (.call "_law_drawn" 2 g__law_drawn (.cons (.var 3) (.cons (.lit (.int 300)) .nil))) (.cons (.var 1) .nil)))) (.call "_law_known" 0 g__law_known .nil))) q1_law)
def q2_law : CSs := (.cons (.own 3 (.call "_law_deck" 2 g__law_deck (.cons (.var 2) (.cons (.lit (.int 20)) .nil))))
    (.cons l1_law
    .nil))
def l2_law : CS := (.for_ (.name 2) (.seq (.slc (.bin .Add (.lst (.cons (.lit (.int 0)) .nil)) (.var 0)) .nil (.cons (.lit (.int 12)) .nil))) q2_law)
def b_law : CSs :=
  (.cons (.set 1 (.tup (.cons (.lit (.int 6)) (.cons (.lit (.str "a")) (.cons (.tup (.cons (.tup (.cons (.lit (.str "hatch")) (.cons (.lit (.int 0)) (.cons (.lit (.str "gap")) .nil)))) (.cons (.tup (.cons (.lit (.str "picker")) (.cons (.lit (.int 5)) (.cons (.lit (.str "aaa")) (.cons (.lit (.int 2)) .nil))))) .nil))) .nil)))))
  (.cons l2_law
  (.cons (.ret (.lit (.bool true)))
  .nil)))
def g_law : FSem := gOf n_law b_law

end Mi
set_option Elab.async false
set_option linter.all false
set_option maxRecDepth 100000
set_option autoImplicit false
namespace Mi
open PySem PySem.Spec L2
open PyProof.Rows (envOfC)
def top (i : Nat) : Stmt := PySem.Challenge.pw_ringbelts_k20_whole_texts_read_back.main.body.getD i (.Pass ⟨0, 0, 0, 0⟩)
abbrev fr0 : List Str := ["all", "any", "bool", "enumerate", "int", "isinstance", "len", "list", "max", "range", "sorted", "str", "tuple", "zip"]
abbrev s__law_deck : Stmt := top 26
theorem sc__law_deck : FnScope n__law_deck ["cell", "turn"] (defScope s__law_deck) := ⟨rfl, rfl, rfl, by decide +kernel, rfl, by decide +kernel, by decide +kernel⟩
theorem ck__law_deck : ckSs ⟨fr0, n__law_deck⟩ (defScope s__law_deck) b__law_deck (defBody s__law_deck) = true := by decide +kernel
abbrev s__law_known : Stmt := top 35
theorem sc__law_known : FnScope n__law_known [] (defScope s__law_known) := ⟨rfl, rfl, rfl, by decide +kernel, rfl, by decide +kernel, by decide +kernel⟩
theorem ck__law_known : ckSs ⟨fr0, n__law_known⟩ (defScope s__law_known) b__law_known (defBody s__law_known) = true := by decide +kernel
abbrev s__law_text : Stmt := top 36
theorem sc__law_text : FnScope n__law_text ["belt"] (defScope s__law_text) := ⟨rfl, rfl, rfl, by decide +kernel, rfl, by decide +kernel, by decide +kernel⟩
theorem ck__law_text : ckSs ⟨fr0, n__law_text⟩ (defScope s__law_text) b__law_text (defBody s__law_text) = true := by decide +kernel
abbrev s__law_pick : Stmt := top 27
theorem sc__law_pick : FnScope n__law_pick ["deck", "size"] (defScope s__law_pick) := ⟨rfl, rfl, rfl, by decide +kernel, rfl, by decide +kernel, by decide +kernel⟩
theorem ck__law_pick : ckSs ⟨fr0, n__law_pick⟩ (defScope s__law_pick) b__law_pick (defBody s__law_pick) = true := by decide +kernel
abbrev s__law_one : Stmt := top 28
theorem sc__law_one : FnScope n__law_one ["deck", "some"] (defScope s__law_one) := ⟨rfl, rfl, rfl, by decide +kernel, rfl, by decide +kernel, by decide +kernel⟩
theorem ck__law_one : ckSs ⟨fr0, n__law_one⟩ (defScope s__law_one) b__law_one (defBody s__law_one) = true := by decide +kernel
abbrev s__law_station : Stmt := top 31
theorem sc__law_station : FnScope n__law_station ["deck", "place", "kinds", "least"] (defScope s__law_station) := ⟨rfl, rfl, rfl, by decide +kernel, rfl, by decide +kernel, by decide +kernel⟩
theorem ck__law_station : ckSs ⟨fr0, n__law_station⟩ (defScope s__law_station) b__law_station (defBody s__law_station) = true := by decide +kernel
abbrev s__law_states : Stmt := top 32
theorem sc__law_states : FnScope n__law_states ["station", "kinds"] (defScope s__law_states) := ⟨rfl, rfl, rfl, by decide +kernel, rfl, by decide +kernel, by decide +kernel⟩
theorem ck__law_states : ckSs ⟨fr0, n__law_states⟩ (defScope s__law_states) b__law_states (defBody s__law_states) = true := by decide +kernel
abbrev s__law_product : Stmt := top 33
theorem sc__law_product : FnScope n__law_product ["belt"] (defScope s__law_product) := ⟨rfl, rfl, rfl, by decide +kernel, rfl, by decide +kernel, by decide +kernel⟩
theorem ck__law_product : ckSs ⟨fr0, n__law_product⟩ (defScope s__law_product) b__law_product (defBody s__law_product) = true := by decide +kernel
abbrev s__law_drawn : Stmt := top 34
theorem sc__law_drawn : FnScope n__law_drawn ["deck", "most"] (defScope s__law_drawn) := ⟨rfl, rfl, rfl, by decide +kernel, rfl, by decide +kernel, by decide +kernel⟩
theorem ck__law_drawn : ckSs ⟨fr0, n__law_drawn⟩ (defScope s__law_drawn) b__law_drawn (defBody s__law_drawn) = true := by decide +kernel
abbrev s__law_sort : Stmt := top 29
theorem sc__law_sort : FnScope n__law_sort ["thing"] (defScope s__law_sort) := ⟨rfl, rfl, rfl, by decide +kernel, rfl, by decide +kernel, by decide +kernel⟩
theorem ck__law_sort : ckSs ⟨fr0, n__law_sort⟩ (defScope s__law_sort) b__law_sort (defBody s__law_sort) = true := by decide +kernel
abbrev s__law_same : Stmt := top 30
theorem sc__law_same : FnScope n__law_same ["told", "due"] (defScope s__law_same) := ⟨rfl, rfl, rfl, by decide +kernel, rfl, by decide +kernel, by decide +kernel⟩
theorem ck__law_same (g : FSem) : ckSs ⟨fr0, n__law_same⟩ (defScope s__law_same) (b__law_same g) (defBody s__law_same) = true := by rfl
abbrev s_is_within : Stmt := top 9
theorem sc_is_within : FnScope n_is_within ["value", "low", "high"] (defScope s_is_within) := ⟨rfl, rfl, rfl, by decide +kernel, rfl, by decide +kernel, by decide +kernel⟩
theorem ck_is_within : ckSs ⟨fr0, n_is_within⟩ (defScope s_is_within) b_is_within (defBody s_is_within) = true := by decide +kernel
abbrev s_is_hatch : Stmt := top 11
theorem sc_is_hatch : FnScope n_is_hatch ["station"] (defScope s_is_hatch) := ⟨rfl, rfl, rfl, by decide +kernel, rfl, by decide +kernel, by decide +kernel⟩
theorem ck_is_hatch : ckSs ⟨fr0, n_is_hatch⟩ (defScope s_is_hatch) b_is_hatch (defBody s_is_hatch) = true := by decide +kernel
abbrev s_states_of : Stmt := top 13
theorem sc_states_of : FnScope n_states_of ["station", "kinds"] (defScope s_states_of) := ⟨rfl, rfl, rfl, by decide +kernel, rfl, by decide +kernel, by decide +kernel⟩
theorem ck_states_of : ckSs ⟨fr0, n_states_of⟩ (defScope s_states_of) b_states_of (defBody s_states_of) = true := by decide +kernel
abbrev s_product_of : Stmt := top 14
theorem sc_product_of : FnScope n_product_of ["belt"] (defScope s_product_of) := ⟨rfl, rfl, rfl, by decide +kernel, rfl, by decide +kernel, by decide +kernel⟩
theorem ck_product_of : ckSs ⟨fr0, n_product_of⟩ (defScope s_product_of) b_product_of (defBody s_product_of) = true := by decide +kernel
abbrev s_is_wishes : Stmt := top 10
theorem sc_is_wishes : FnScope n_is_wishes ["value", "kinds"] (defScope s_is_wishes) := ⟨rfl, rfl, rfl, by decide +kernel, rfl, by decide +kernel, by decide +kernel⟩
theorem ck_is_wishes : ckSs ⟨fr0, n_is_wishes⟩ (defScope s_is_wishes) b_is_wishes (defBody s_is_wishes) = true := by decide +kernel
abbrev s_is_station : Stmt := top 12
theorem sc_is_station : FnScope n_is_station ["value", "slots", "kinds"] (defScope s_is_station) := ⟨rfl, rfl, rfl, by decide +kernel, rfl, by decide +kernel, by decide +kernel⟩
theorem ck_is_station : ckSs ⟨fr0, n_is_station⟩ (defScope s_is_station) b_is_station (defBody s_is_station) = true := by decide +kernel
abbrev s_is_belt_value : Stmt := top 15
theorem sc_is_belt_value : FnScope n_is_belt_value ["value"] (defScope s_is_belt_value) := ⟨rfl, rfl, rfl, by decide +kernel, rfl, by decide +kernel, by decide +kernel⟩
theorem ck_is_belt_value : ckSs ⟨fr0, n_is_belt_value⟩ (defScope s_is_belt_value) b_is_belt_value (defBody s_is_belt_value) = true := by decide +kernel
abbrev s_need_belt : Stmt := top 16
theorem sc_need_belt : FnScope n_need_belt ["value"] (defScope s_need_belt) := ⟨rfl, rfl, rfl, by decide +kernel, rfl, by decide +kernel, by decide +kernel⟩
theorem ck_need_belt : ckSs ⟨fr0, n_need_belt⟩ (defScope s_need_belt) b_need_belt (defBody s_need_belt) = true := by decide +kernel
abbrev s_station_line : Stmt := top 20
theorem sc_station_line : FnScope n_station_line ["station"] (defScope s_station_line) := ⟨rfl, rfl, rfl, by decide +kernel, rfl, by decide +kernel, by decide +kernel⟩
theorem ck_station_line : ckSs ⟨fr0, n_station_line⟩ (defScope s_station_line) b_station_line (defBody s_station_line) = true := by decide +kernel
abbrev s_belt_text : Stmt := top 23
theorem sc_belt_text : FnScope n_belt_text ["belt"] (defScope s_belt_text) := ⟨rfl, rfl, rfl, by decide +kernel, rfl, by decide +kernel, by decide +kernel⟩
theorem ck_belt_text : ckSs ⟨fr0, n_belt_text⟩ (defScope s_belt_text) b_belt_text (defBody s_belt_text) = true := by decide +kernel
abbrev s_number_of : Stmt := top 19
theorem sc_number_of : FnScope n_number_of ["word"] (defScope s_number_of) := ⟨rfl, rfl, rfl, by decide +kernel, rfl, by decide +kernel, by decide +kernel⟩
theorem ck_number_of : ckSs ⟨fr0, n_number_of⟩ (defScope s_number_of) b_number_of (defBody s_number_of) = true := by decide +kernel
abbrev s_head_of : Stmt := top 21
theorem sc_head_of : FnScope n_head_of ["line"] (defScope s_head_of) := ⟨rfl, rfl, rfl, by decide +kernel, rfl, by decide +kernel, by decide +kernel⟩
theorem ck_head_of : ckSs ⟨fr0, n_head_of⟩ (defScope s_head_of) b_head_of (defBody s_head_of) = true := by decide +kernel
abbrev s_station_of : Stmt := top 22
theorem sc_station_of : FnScope n_station_of ["line"] (defScope s_station_of) := ⟨rfl, rfl, rfl, by decide +kernel, rfl, by decide +kernel, by decide +kernel⟩
theorem ck_station_of : ckSs ⟨fr0, n_station_of⟩ (defScope s_station_of) b_station_of (defBody s_station_of) = true := by decide +kernel
abbrev s_read_belt : Stmt := top 24
theorem sc_read_belt : FnScope n_read_belt ["value"] (defScope s_read_belt) := ⟨rfl, rfl, rfl, by decide +kernel, rfl, by decide +kernel, by decide +kernel⟩
theorem ck_read_belt : ckSs ⟨fr0, n_read_belt⟩ (defScope s_read_belt) b_read_belt (defBody s_read_belt) = true := by decide +kernel
abbrev s_law : Stmt := top 37
theorem sc_law : FnScope n_law ["script"] (defScope s_law) := ⟨rfl, rfl, rfl, by decide +kernel, rfl, by decide +kernel, by decide +kernel⟩
theorem ck_law : ckSs ⟨fr0, n_law⟩ (defScope s_law) b_law (defBody s_law) = true := by decide +kernel
structure Facts (K : PySem.W.Frag) (mg : Str → Option Value) : Prop where
  free : FreeAll mg fr0
  k_RULES : Glo K mg "RULES" d_RULES
  k_MOST_BUSY : Glo K mg "MOST_BUSY" d_MOST_BUSY
  k_KINDS : Glo K mg "KINDS" d_KINDS
  k_MOST_STANDS : Glo K mg "MOST_STANDS" d_MOST_STANDS
  k_FIGURES : Glo K mg "FIGURES" d_FIGURES
  d__law_deck : DefA K mg "_law_deck" s__law_deck ["cell", "turn"]
  d__law_known : DefA K mg "_law_known" s__law_known []
  d__law_text : DefA K mg "_law_text" s__law_text ["belt"]
  d__law_pick : DefA K mg "_law_pick" s__law_pick ["deck", "size"]
  d__law_one : DefA K mg "_law_one" s__law_one ["deck", "some"]
  d__law_station : DefA K mg "_law_station" s__law_station ["deck", "place", "kinds", "least"]
  d__law_states : DefA K mg "_law_states" s__law_states ["station", "kinds"]
  d__law_product : DefA K mg "_law_product" s__law_product ["belt"]
  d__law_drawn : DefA K mg "_law_drawn" s__law_drawn ["deck", "most"]
  d__law_sort : DefA K mg "_law_sort" s__law_sort ["thing"]
  d__law_same : DefA K mg "_law_same" s__law_same ["told", "due"]
  d_is_within : DefA K mg "is_within" s_is_within ["value", "low", "high"]
  d_is_hatch : DefA K mg "is_hatch" s_is_hatch ["station"]
  d_states_of : DefA K mg "states_of" s_states_of ["station", "kinds"]
  d_product_of : DefA K mg "product_of" s_product_of ["belt"]
  d_is_wishes : DefA K mg "is_wishes" s_is_wishes ["value", "kinds"]
  d_is_station : DefA K mg "is_station" s_is_station ["value", "slots", "kinds"]
  d_is_belt_value : DefA K mg "is_belt_value" s_is_belt_value ["value"]
  d_need_belt : DefA K mg "need_belt" s_need_belt ["value"]
  d_station_line : DefA K mg "station_line" s_station_line ["station"]
  d_belt_text : DefA K mg "belt_text" s_belt_text ["belt"]
  d_number_of : DefA K mg "number_of" s_number_of ["word"]
  d_head_of : DefA K mg "head_of" s_head_of ["line"]
  d_station_of : DefA K mg "station_of" s_station_of ["line"]
  d_read_belt : DefA K mg "read_belt" s_read_belt ["value"]
section
variable {P : Program} {w : World} {K : PySem.W.Frag} {mg : Str → Option Value} {base : Heap}
theorem h__law_deck (T : Facts K mg) : Has P w K mg base 1 "_law_deck" 2 g__law_deck :=
  has_of (k := 0) T.d__law_deck sc__law_deck (free_of T.free) ck__law_deck (by
    simp only [b__law_deck, needSs, needS, needE, needEs, needI, needTg, needTgs, and_true, true_and])
theorem h__law_known (T : Facts K mg) : Has P w K mg base 1 "_law_known" 0 g__law_known :=
  has_of (k := 0) T.d__law_known sc__law_known (free_of T.free) ck__law_known (by
    simp only [b__law_known, needSs, needS, needE, needEs, needI, needTg, needTgs, and_true, true_and])
theorem h__law_text (T : Facts K mg) : Has P w K mg base 1 "_law_text" 1 g__law_text :=
  has_of (k := 0) T.d__law_text sc__law_text (free_of T.free) ck__law_text (by
    simp only [b__law_text, q1__law_text, l1__law_text, needSs, needS, needE, needEs, needI, needTg, needTgs, and_true, true_and])
theorem h__law_pick (T : Facts K mg) : Has P w K mg base 1 "_law_pick" 2 g__law_pick :=
  has_of (k := 0) T.d__law_pick sc__law_pick (free_of T.free) ck__law_pick (by
    simp only [b__law_pick, needSs, needS, needE, needEs, needI, needTg, needTgs, and_true, true_and])
theorem h__law_one (T : Facts K mg) : Has P w K mg base 2 "_law_one" 2 g__law_one :=
  has_of (k := 1) T.d__law_one sc__law_one (free_of T.free) ck__law_one (by
    have c__law_pick : Has P w K mg base (1) "_law_pick" 2 g__law_pick := (h__law_pick T).mono (by omega)
    simp only [b__law_one, c__law_pick, needSs, needS, needE, needEs, needI, needTg, needTgs, and_true, true_and])
theorem h__law_station (T : Facts K mg) : Has P w K mg base 3 "_law_station" 4 g__law_station :=
  has_of (k := 2) T.d__law_station sc__law_station (free_of T.free) ck__law_station (by
    have c__law_pick : Has P w K mg base (2) "_law_pick" 2 g__law_pick := (h__law_pick T).mono (by omega)
    have c__law_one : Has P w K mg base (2) "_law_one" 2 g__law_one := (h__law_one T).mono (by omega)
    simp only [b__law_station, c1__law_station, c__law_pick, c__law_one, needSs, needS, needE, needEs, needI, needTg, needTgs, and_true, true_and])
theorem h__law_states (T : Facts K mg) : Has P w K mg base 1 "_law_states" 2 g__law_states :=
  has_of (k := 0) T.d__law_states sc__law_states (free_of T.free) ck__law_states (by
    simp only [b__law_states, needSs, needS, needE, needEs, needI, needTg, needTgs, and_true, true_and])
theorem h__law_product (T : Facts K mg) : Has P w K mg base 2 "_law_product" 1 g__law_product :=
  has_of (k := 1) T.d__law_product sc__law_product (free_of T.free) ck__law_product (by
    have c__law_states : Has P w K mg base (1) "_law_states" 2 g__law_states := (h__law_states T).mono (by omega)
    simp only [b__law_product, q1__law_product, l1__law_product, q2__law_product, l2__law_product, c__law_states, needSs, needS, needE, needEs, needI, needTg, needTgs, and_true, true_and])
theorem h__law_drawn (T : Facts K mg) : Has P w K mg base 4 "_law_drawn" 2 g__law_drawn :=
  has_of (k := 3) T.d__law_drawn sc__law_drawn (free_of T.free) ck__law_drawn (by
    have c__law_pick : Has P w K mg base (3) "_law_pick" 2 g__law_pick := (h__law_pick T).mono (by omega)
    have c__law_one : Has P w K mg base (3) "_law_one" 2 g__law_one := (h__law_one T).mono (by omega)
    have c__law_station : Has P w K mg base (3) "_law_station" 4 g__law_station := (h__law_station T).mono (by omega)
    have c__law_product : Has P w K mg base (3) "_law_product" 1 g__law_product := (h__law_product T).mono (by omega)
    simp only [b__law_drawn, c1__law_drawn, o1__law_drawn, c2__law_drawn, q1__law_drawn, l1__law_drawn, c__law_pick, c__law_one, c__law_station, c__law_product, needSs, needS, needE, needEs, needI, needTg, needTgs, and_true, true_and])
theorem h__law_sort (T : Facts K mg) : Has P w K mg base 1 "_law_sort" 1 g__law_sort :=
  has_of (k := 0) T.d__law_sort sc__law_sort (free_of T.free) ck__law_sort (by
    simp only [b__law_sort, needSs, needS, needE, needEs, needI, needTg, needTgs, and_true, true_and])
theorem h__law_same (T : Facts K mg) : ∀ n : Nat, Has P w K mg base (n + 2) "_law_same" 2 (g__law_same n)
  | 0 => (has_err (k := 1) T.d__law_same sc__law_same).mono (by omega)
  | n + 1 => by
    have ih := h__law_same T n
    exact (has_of (k := n + 2) T.d__law_same sc__law_same (free_of T.free) (ck__law_same _) (by
    have c__law_sort : Has P w K mg base (n + 2) "_law_sort" 1 g__law_sort := (h__law_sort T).mono (by omega)
    simp only [b__law_same, c1__law_same, c__law_sort, ih, needSs, needS, needE, needEs, needI, needTg, needTgs, and_true, true_and])).mono (by omega)
theorem h_is_within (T : Facts K mg) : Has P w K mg base 1 "is_within" 3 g_is_within :=
  has_of (k := 0) T.d_is_within sc_is_within (free_of T.free) ck_is_within (by
    simp only [b_is_within, needSs, needS, needE, needEs, needI, needTg, needTgs, and_true, true_and])
theorem h_is_hatch (T : Facts K mg) : Has P w K mg base 1 "is_hatch" 1 g_is_hatch :=
  has_of (k := 0) T.d_is_hatch sc_is_hatch (free_of T.free) ck_is_hatch (by
    simp only [b_is_hatch, needSs, needS, needE, needEs, needI, needTg, needTgs, and_true, true_and])
theorem h_states_of (T : Facts K mg) : Has P w K mg base 2 "states_of" 2 g_states_of :=
  has_of (k := 1) T.d_states_of sc_states_of (free_of T.free) ck_states_of (by
    have c_is_hatch : Has P w K mg base (1) "is_hatch" 1 g_is_hatch := (h_is_hatch T).mono (by omega)
    simp only [b_states_of, c_is_hatch, needSs, needS, needE, needEs, needI, needTg, needTgs, and_true, true_and])
theorem h_product_of (T : Facts K mg) : Has P w K mg base 3 "product_of" 1 g_product_of :=
  has_of (k := 2) T.d_product_of sc_product_of (free_of T.free) ck_product_of (by
    have c_states_of : Has P w K mg base (2) "states_of" 2 g_states_of := (h_states_of T).mono (by omega)
    simp only [b_product_of, q1_product_of, l1_product_of, q2_product_of, l2_product_of, c_states_of, needSs, needS, needE, needEs, needI, needTg, needTgs, and_true, true_and])
theorem h_is_wishes (T : Facts K mg) : Has P w K mg base 1 "is_wishes" 2 g_is_wishes :=
  has_of (k := 0) T.d_is_wishes sc_is_wishes (free_of T.free) ck_is_wishes (by
    simp only [b_is_wishes, c1_is_wishes, needSs, needS, needE, needEs, needI, needTg, needTgs, and_true, true_and])
theorem h_is_station (T : Facts K mg) : Has P w K mg base 2 "is_station" 3 g_is_station :=
  has_of (k := 1) T.d_is_station sc_is_station (free_of T.free) ck_is_station (by
    have c_is_within : Has P w K mg base (1) "is_within" 3 g_is_within := (h_is_within T).mono (by omega)
    have c_is_wishes : Has P w K mg base (1) "is_wishes" 2 g_is_wishes := (h_is_wishes T).mono (by omega)
    have k_RULES := T.k_RULES
    have k_MOST_BUSY := T.k_MOST_BUSY
    simp only [b_is_station, c_is_within, c_is_wishes, k_RULES, k_MOST_BUSY, needSs, needS, needE, needEs, needI, needTg, needTgs, and_true, true_and])
theorem h_is_belt_value (T : Facts K mg) : Has P w K mg base 4 "is_belt_value" 1 g_is_belt_value :=
  has_of (k := 3) T.d_is_belt_value sc_is_belt_value (free_of T.free) ck_is_belt_value (by
    have c_is_within : Has P w K mg base (3) "is_within" 3 g_is_within := (h_is_within T).mono (by omega)
    have c_is_station : Has P w K mg base (3) "is_station" 3 g_is_station := (h_is_station T).mono (by omega)
    have c_is_hatch : Has P w K mg base (3) "is_hatch" 1 g_is_hatch := (h_is_hatch T).mono (by omega)
    have c_product_of : Has P w K mg base (3) "product_of" 1 g_product_of := (h_product_of T).mono (by omega)
    have k_KINDS := T.k_KINDS
    have k_MOST_STANDS := T.k_MOST_STANDS
    simp only [b_is_belt_value, c1_is_belt_value, c2_is_belt_value, c3_is_belt_value, c_is_within, c_is_station, c_is_hatch, c_product_of, k_KINDS, k_MOST_STANDS, needSs, needS, needE, needEs, needI, needTg, needTgs, and_true, true_and])
theorem h_need_belt (T : Facts K mg) : Has P w K mg base 5 "need_belt" 1 g_need_belt :=
  has_of (k := 4) T.d_need_belt sc_need_belt (free_of T.free) ck_need_belt (by
    have c_is_belt_value : Has P w K mg base (4) "is_belt_value" 1 g_is_belt_value := (h_is_belt_value T).mono (by omega)
    simp only [b_need_belt, c_is_belt_value, needSs, needS, needE, needEs, needI, needTg, needTgs, and_true, true_and])
theorem h_station_line (T : Facts K mg) : Has P w K mg base 1 "station_line" 1 g_station_line :=
  has_of (k := 0) T.d_station_line sc_station_line (free_of T.free) ck_station_line (by
    simp only [b_station_line, c1_station_line, needSs, needS, needE, needEs, needI, needTg, needTgs, and_true, true_and])
theorem h_belt_text (T : Facts K mg) : Has P w K mg base 6 "belt_text" 1 g_belt_text :=
  has_of (k := 5) T.d_belt_text sc_belt_text (free_of T.free) ck_belt_text (by
    have c_need_belt : Has P w K mg base (5) "need_belt" 1 g_need_belt := (h_need_belt T).mono (by omega)
    have c_station_line : Has P w K mg base (5) "station_line" 1 g_station_line := (h_station_line T).mono (by omega)
    simp only [b_belt_text, s1_belt_text, c1_belt_text, c_need_belt, c_station_line, needSs, needS, needE, needEs, needI, needTg, needTgs, and_true, true_and])
theorem h_number_of (T : Facts K mg) : Has P w K mg base 1 "number_of" 1 g_number_of :=
  has_of (k := 0) T.d_number_of sc_number_of (free_of T.free) ck_number_of (by
    have k_FIGURES := T.k_FIGURES
    simp only [b_number_of, k_FIGURES, needSs, needS, needE, needEs, needI, needTg, needTgs, and_true, true_and])
theorem h_head_of (T : Facts K mg) : Has P w K mg base 2 "head_of" 1 g_head_of :=
  has_of (k := 1) T.d_head_of sc_head_of (free_of T.free) ck_head_of (by
    have c_number_of : Has P w K mg base (1) "number_of" 1 g_number_of := (h_number_of T).mono (by omega)
    have k_KINDS := T.k_KINDS
    simp only [b_head_of, c_number_of, k_KINDS, needSs, needS, needE, needEs, needI, needTg, needTgs, and_true, true_and])
theorem h_station_of (T : Facts K mg) : Has P w K mg base 3 "station_of" 1 g_station_of :=
  has_of (k := 2) T.d_station_of sc_station_of (free_of T.free) ck_station_of (by
    have c_number_of : Has P w K mg base (2) "number_of" 1 g_number_of := (h_number_of T).mono (by omega)
    have c_is_station : Has P w K mg base (2) "is_station" 3 g_is_station := (h_is_station T).mono (by omega)
    simp only [b_station_of, c_number_of, c_is_station, needSs, needS, needE, needEs, needI, needTg, needTgs, and_true, true_and])
theorem h_read_belt (T : Facts K mg) : Has P w K mg base 5 "read_belt" 1 g_read_belt :=
  has_of (k := 4) T.d_read_belt sc_read_belt (free_of T.free) ck_read_belt (by
    have c_head_of : Has P w K mg base (4) "head_of" 1 g_head_of := (h_head_of T).mono (by omega)
    have c_station_of : Has P w K mg base (4) "station_of" 1 g_station_of := (h_station_of T).mono (by omega)
    have c_is_belt_value : Has P w K mg base (4) "is_belt_value" 1 g_is_belt_value := (h_is_belt_value T).mono (by omega)
    simp only [b_read_belt, c1_read_belt, q1_read_belt, l1_read_belt, c_head_of, c_station_of, c_is_belt_value, needSs, needS, needE, needEs, needI, needTg, needTgs, and_true, true_and])
theorem h_law {f : Addr} {fd : FuncData} (T : Facts K mg) (F : Fun K "law" "law" s_law f fd) : FnOk P w K mg base CX0 7 f fd ["script"] (spM K 1 g_law) :=
  law_ok (k := 6) F sc_law (free_of T.free) ck_law (by
    have c__law_deck : Has P w K mg base (6) "_law_deck" 2 g__law_deck := (h__law_deck T).mono (by omega)
    have c__law_text : Has P w K mg base (6) "_law_text" 1 g__law_text := (h__law_text T).mono (by omega)
    have c__law_same : Has P w K mg base (6) "_law_same" 2 (g__law_same 4) := (h__law_same T 4).mono (by omega)
    have c_belt_text : Has P w K mg base (6) "belt_text" 1 g_belt_text := (h_belt_text T).mono (by omega)
    have c_read_belt : Has P w K mg base (6) "read_belt" 1 g_read_belt := (h_read_belt T).mono (by omega)
    have c__law_drawn : Has P w K mg base (6) "_law_drawn" 2 g__law_drawn := (h__law_drawn T).mono (by omega)
    have c__law_known : Has P w K mg base (6) "_law_known" 0 g__law_known := (h__law_known T).mono (by omega)
    simp only [b_law, q1_law, l1_law, q2_law, l2_law, c__law_deck, c__law_text, c__law_same, c_belt_text, c_read_belt, c__law_drawn, c__law_known, needSs, needS, needE, needEs, needI, needTg, needTgs, and_true, true_and])
end
theorem end_mk {P : Program} {w : World} {K : PySem.W.Frag} {mg : Str → Option Value} {h : Heap} {fa f : Addr} {od an : Option Addr} {sl : Array (Option Value)} {oc kV dc pm cd ct : Value} (X : K.In h) (G : h.Ns mainGlobals mg) (hfa : mg "law" = some (.ref fa)) (T : Facts K mg)
    (a : PySem.W.nsIn K mainGlobals "law" = some (some (.ref f))) (l : K.lookup f = some ⟨oc, od, .func (PySem.W.fnOf "law" "law" (defArgs s_law) (defBody s_law) (defScope s_law) .none kV dc pm an cd ct), sl⟩) (c : PySem.W.codeIn K cd "law" = true) (k : PySem.W.keepIn K (.ref f) = true) :
    ∃ fd : FuncData, (∀ (s : Shared) (v : Value), BindsTo s fd ⟨[v], []⟩ [("script", v)]) ∧ ∀ base : Heap, K.In base → base.Ns mainGlobals mg → FnOk P w K mg base CX0 7 fa fd ["script"] (spM K 1 g_law) := by
  have e := hfa.symm.trans (PySem.W.mg_of X G a)
  cases e
  exact ⟨PySem.W.fnOf "law" "law" (defArgs s_law) (defBody s_law) (defScope s_law) .none kV dc pm an cd ct, fun s v => .of_eq rfl, fun base _ _ => h_law T (fun_mk l c k)⟩
end Mi
set_option Elab.async false
set_option linter.all false
set_option maxRecDepth 100000
set_option autoImplicit false
namespace Mi
open PySem PySem.Spec L2
def Dk (n : Nat) (d : D) : Prop := ∃ a b c : Int, d = .list [.int a, .int b, .int c] ∧ 0 ≤ b ∧ b < 2147483579 ∧ 0 ≤ c ∧ c ≤ n
theorem ati0 {α : Type} {x : α} {l : List α} : atI (x :: l) 0 = some x := by
  unfold atI ixN
  simp
theorem ati_nat {α : Type} {l : List α} {x : α} {i : Nat} (h : l[i]? = some x) : atI l (i : Int) = some x := by
  have := (List.getElem?_eq_some_iff.mp h).1
  unfold atI ixN
  rw [if_pos (by omega), if_pos (by omega)]
  simpa using h
theorem ati1 {α : Type} {x y : α} {l : List α} : atI (x :: y :: l) 1 = some y := ati_nat (i := 1) rfl
theorem ati2 {α : Type} {x y z : α} {l : List α} : atI (x :: y :: z :: l) 2 = some z := ati_nat (i := 2) rfl
theorem ati3 {α : Type} {x y z u : α} {l : List α} : atI (x :: y :: z :: u :: l) 3 = some u := ati_nat (i := 3) rfl
theorem t_deck (c t : Int) (n : Nat) (h : 0 ≤ t) (h2 : t ≤ n) : ∃ d, g__law_deck none [.int c, .int t] = .ok d true none ∧ Dk n d := by
  by_cases hc : (1000000000000000000 : Int) ≤ c
  · refine ⟨.list [.int (c - 1000000000000000000), .int (c % 2147483579), .int t], ?_, _, _, _, rfl, Int.emod_nonneg _ (by decide), Int.emod_lt_of_pos _ (by decide), h, h2⟩
    simp [g__law_deck, b__law_deck, gOf, noX, runF, endF, outOf, moN, start0, evSs, evS, evE, evEs, evP, evIf, evI, evTg, evTgs, evVar, evTake, evFrz, evLit, litD, evD, evBin, evUn, Res.bind, fin, rvD, asB, evB, evNot, evIte, evBlV, evAll, rvDs, valDs, evMk, mkTup, mkLst, evCallB, evMeth, evPart, evNoPart, evSl, intOf, intD, evChain, cmpI, evApp, evPop, evPop0, splitRs, putOut, evUser, evIter, srcOf, evSrc, lstOf, rng1_ok, rng2_ok, enum1, zip2, xSeq, xNil, xSet, xOwn, xAsg, xExpr, xRet, xIf, xPar, binG, cmpG, gAdd, gSub, gMul, gDiv, gMod, gPow, gNeg, gIdx, gSl, biG, gIsi, isTy, gCmpI, tgName, tgSub, tgTup, tgsCons, tgsNil, Tgs.len, CEs.len, locAt, Sl.loc, setC, evYes, evNone, ixN, smallB_ok, posB_ok, wipeF, wipeOk, wipeAt, backAt, gEq_int, gNe_int, gEq_str, gNe_str, gEq_bool, gNe_bool, gIs, gIsNot, isNon, lenD, meT, tyD_str, tyD_list, ati0, ati1, ati2, ati3, hc]
  · refine ⟨.list [.int 0, .int (c % 2147483579), .int t], ?_, _, _, _, rfl, Int.emod_nonneg _ (by decide), Int.emod_lt_of_pos _ (by decide), h, h2⟩
    simp [g__law_deck, b__law_deck, gOf, noX, runF, endF, outOf, moN, start0, evSs, evS, evE, evEs, evP, evIf, evI, evTg, evTgs, evVar, evTake, evFrz, evLit, litD, evD, evBin, evUn, Res.bind, fin, rvD, asB, evB, evNot, evIte, evBlV, evAll, rvDs, valDs, evMk, mkTup, mkLst, evCallB, evMeth, evPart, evNoPart, evSl, intOf, intD, evChain, cmpI, evApp, evPop, evPop0, splitRs, putOut, evUser, evIter, srcOf, evSrc, lstOf, rng1_ok, rng2_ok, enum1, zip2, xSeq, xNil, xSet, xOwn, xAsg, xExpr, xRet, xIf, xPar, binG, cmpG, gAdd, gSub, gMul, gDiv, gMod, gPow, gNeg, gIdx, gSl, biG, gIsi, isTy, gCmpI, tgName, tgSub, tgTup, tgsCons, tgsNil, Tgs.len, CEs.len, locAt, Sl.loc, setC, evYes, evNone, ixN, smallB_ok, posB_ok, wipeF, wipeOk, wipeAt, backAt, gEq_int, gNe_int, gEq_str, gNe_str, gEq_bool, gNe_bool, gIs, gIsNot, isNon, lenD, meT, tyD_str, tyD_list, ati0, ati1, ati2, ati3, hc]
theorem t_pick {n : Nat} {d : D} {s : Int} (h : Dk n d) (hn : n < 1000000000) (h0 : 0 < s) (h1 : s < 1000000000) :
    ∃ r d', g__law_pick (some d) [.int s] = .ok (.int r) false (some d') ∧ 0 ≤ r ∧ r < s ∧ Dk (n + 1) d' := by
  obtain ⟨a, b, c, rfl, hb0, hb1, hc0, hc1⟩ := h
  by_cases ha : 1 < a
  · refine ⟨a % s, .list [.int (a / s), .int b, .int c], ?_, Int.emod_nonneg _ (by omega), Int.emod_lt_of_pos _ h0, _, _, _, rfl, hb0, hb1, hc0, by omega⟩
    simp [g__law_pick, b__law_pick, gOf, noX, runF, endF, outOf, moN, start0, evSs, evS, evE, evEs, evP, evIf, evI, evTg, evTgs, evVar, evTake, evFrz, evLit, litD, evD, evBin, evUn, Res.bind, fin, rvD, asB, evB, evNot, evIte, evBlV, evAll, rvDs, valDs, evMk, mkTup, mkLst, evCallB, evMeth, evPart, evNoPart, evSl, intOf, intD, evChain, cmpI, evApp, evPop, evPop0, splitRs, putOut, evUser, evIter, srcOf, evSrc, lstOf, rng1_ok, rng2_ok, enum1, zip2, xSeq, xNil, xSet, xOwn, xAsg, xExpr, xRet, xIf, xPar, binG, cmpG, gAdd, gSub, gMul, gDiv, gMod, gPow, gNeg, gIdx, gSl, biG, gIsi, isTy, gCmpI, tgName, tgSub, tgTup, tgsCons, tgsNil, Tgs.len, CEs.len, locAt, Sl.loc, setC, evYes, evNone, ixN, smallB_ok, posB_ok, wipeF, wipeOk, wipeAt, backAt, gEq_int, gNe_int, gEq_str, gNe_str, gEq_bool, gNe_bool, gIs, gIsNot, isNon, lenD, meT, tyD_str, tyD_list, ati0, ati1, ati2, ati3, ha, h0, h1, ati0, ati1, ati2]
  · have e1 : (b + 15485867 * (c + 1)).natAbs < 18446744073709551616 := by omega
    generalize hx : (b + 15485867 * (c + 1)) ^ 5 % 2147483647 = x
    have x0 : 0 ≤ x := by rw [← hx]; exact Int.emod_nonneg _ (by decide)
    have x1 : x < 2147483647 := by rw [← hx]; exact Int.emod_lt_of_pos _ (by decide)
    have e2 : (x + 7919 * (c + 1)).natAbs < 18446744073709551616 := by omega
    refine ⟨(x + 7919 * (c + 1)) ^ 3 % 2147483629 / 32 % s, .list [.int a, .int b, .int (c + 1)], ?_, Int.emod_nonneg _ (by omega), Int.emod_lt_of_pos _ h0, _, _, _, rfl, hb0, hb1, by omega, by omega⟩
    simp [g__law_pick, b__law_pick, gOf, noX, runF, endF, outOf, moN, start0, evSs, evS, evE, evEs, evP, evIf, evI, evTg, evTgs, evVar, evTake, evFrz, evLit, litD, evD, evBin, evUn, Res.bind, fin, rvD, asB, evB, evNot, evIte, evBlV, evAll, rvDs, valDs, evMk, mkTup, mkLst, evCallB, evMeth, evPart, evNoPart, evSl, intOf, intD, evChain, cmpI, evApp, evPop, evPop0, splitRs, putOut, evUser, evIter, srcOf, evSrc, lstOf, rng1_ok, rng2_ok, enum1, zip2, xSeq, xNil, xSet, xOwn, xAsg, xExpr, xRet, xIf, xPar, binG, cmpG, gAdd, gSub, gMul, gDiv, gMod, gPow, gNeg, gIdx, gSl, biG, gIsi, isTy, gCmpI, tgName, tgSub, tgTup, tgsCons, tgsNil, Tgs.len, CEs.len, locAt, Sl.loc, setC, evYes, evNone, ixN, smallB_ok, posB_ok, wipeF, wipeOk, wipeAt, backAt, gEq_int, gNe_int, gEq_str, gNe_str, gEq_bool, gNe_bool, gIs, gIsNot, isNon, lenD, meT, tyD_str, tyD_list, ati0, ati1, ati2, ati3, ha, h0, h1, ati0, ati1, ati2, e1, hx, e2]
theorem t_one {n : Nat} {d : D} {ds : List D} (h : Dk n d) (hn : n < 1000000000) (h0 : ds ≠ []) (h1 : ds.length < 1000) :
    ∃ y d', g__law_one (some d) [.list ds] = .ok y false (some d') ∧ y ∈ ds ∧ Dk (n + 1) d' := by
  have hp : 0 < ds.length := List.length_pos_iff.mpr h0
  obtain ⟨r, d', e, r0, r1, k⟩ := t_pick (s := (ds.length : Int)) h hn (by omega) (by omega)
  have hl : r.toNat < ds.length := by omega
  have ha : atI ds r = some ds[r.toNat] := by
    have := ati_nat (l := ds) (i := r.toNat) (List.getElem?_eq_getElem hl)
    rwa [Int.toNat_of_nonneg r0] at this
  refine ⟨ds[r.toNat], d', ?_, List.getElem_mem _, k⟩
  obtain ⟨a, b, c, rfl, _⟩ := h
  obtain ⟨a', b', c', rfl, _⟩ := k
  simp [g__law_one, b__law_one, gOf, noX, runF, endF, outOf, moN, start0, evSs, evS, evE, evEs, evP, evIf, evI, evTg, evTgs, evVar, evTake, evFrz, evLit, litD, evD, evBin, evUn, Res.bind, fin, rvD, asB, evB, evNot, evIte, evBlV, evAll, rvDs, valDs, evMk, mkTup, mkLst, evCallB, evMeth, evPart, evNoPart, evSl, intOf, intD, evChain, cmpI, evApp, evPop, evPop0, splitRs, putOut, evUser, evIter, srcOf, evSrc, lstOf, rng1_ok, rng2_ok, enum1, zip2, xSeq, xNil, xSet, xOwn, xAsg, xExpr, xRet, xIf, xPar, binG, cmpG, gAdd, gSub, gMul, gDiv, gMod, gPow, gNeg, gIdx, gSl, biG, gIsi, isTy, gCmpI, tgName, tgSub, tgTup, tgsCons, tgsNil, Tgs.len, CEs.len, locAt, Sl.loc, setC, evYes, evNone, ixN, smallB_ok, posB_ok, wipeF, wipeOk, wipeAt, backAt, gEq_int, gNe_int, gEq_str, gNe_str, gEq_bool, gNe_bool, gIs, gIsNot, isNon, lenD, meT, tyD_str, tyD_list, ati0, ati1, ati2, ati3, lenD, e, ha]
end Mi
set_option Elab.async false
set_option linter.all false
set_option maxRecDepth 100000
set_option autoImplicit false
namespace Mi
open PySem PySem.Spec L2
def hat (p : Int) (r : Str) : D := .tuple [.str "hatch", .int p, .str r]
def pik (p : Int) (w : Str) (b : Int) : D := .tuple [.str "picker", .int p, .str w, .int b]
def ltr : Str → List Str
  | x => x.cps.toList.map fun c => ⟨#[c]⟩
def wds (k : Str) : List Str := ((ltr k).map fun a => Txt.join "" [a]) ++ (ltr k).flatMap fun a => (ltr k).map fun b => Txt.join "" [a, b]
def rls : List Str := ["eager", "polite", "gap"]
def KS : List Str := ["a", "ab", "abc"]
/-- stations drawn at a place -/
def stAt (k : Str) (p : Nat) : List D := rls.map (hat p) ++ (wds k).flatMap fun w => [(0 : Int), 1, 2].map (pik p w)
def plc : D → Int
  | .tuple (_ :: .int p :: _) => p
  | _ => 0
def isH : D → Bool
  | .tuple (.str x :: _) => x == "hatch"
  | _ => false
def sts (k : Str) : D → Int
  | .tuple [.str _, .int _, .str r] => ((k.length : Int) + 1) * (if r == "gap" then 2 else 1)
  | .tuple [.str _, .int _, .str w, .int b] => (w.length : Int) * (b + 1)
  | _ => 0
def prts : D → List Str
  | .tuple [.str a, .int p, .str r] => [a, strI p, r]
  | .tuple [.str a, .int p, .str r, .int b] => [a, strI p, r, strI b]
  | _ => []
def txt (s : D) : Str := Txt.join " " (prts s)
def okSt (k : Str) (p : Nat) (s : D) : Bool :=
  gives (g_states_of none [s, .str k]) (.int (sts k s)) && gives (g__law_states none [s, .str k]) (.int (sts k s)) && decide (1 ≤ sts k s) && decide (sts k s < 100) && decide (plc s = p)
    && [2, 3, 4, 5].all (fun (m : Nat) => !decide (p < m) || gives (g_is_station none [s, .int m, .str k]) (.bool true)) && gives (g_is_hatch none [s]) (.bool (isH s))
    && gives (g_station_line none [s]) (.str (txt s)) && gives (g_station_of none [.str (txt s)]) s && decide (10 ∉ (txt s).cps.toList) && decide ((txt s).length < 30)
theorem all_st : KS.all (fun k => [0, 1, 2, 3, 4].all fun (p : Nat) => (stAt k p).all (okSt k p)) = true := by decide +kernel
end Mi
set_option Elab.async false
set_option linter.all false
set_option maxRecDepth 100000
set_option autoImplicit false
namespace Mi
open PySem PySem.Spec L2
structure StF (k : Str) (m : Nat) (s : D) : Prop where
  so : g_states_of none [s, .str k] = .ok (.int (sts k s)) false none
  ls : g__law_states none [s, .str k] = .ok (.int (sts k s)) false none
  s1 : 1 ≤ sts k s
  s2 : sts k s < 100
  is : g_is_station none [s, .int m, .str k] = .ok (.bool true) false none
  ih : g_is_hatch none [s] = .ok (.bool (isH s)) false none
  sl : g_station_line none [s] = .ok (.str (txt s)) false none
  sf : g_station_of none [.str (txt s)] = .ok s false none
  nl : 10 ∉ (txt s).cps.toList
  ln : (txt s).length < 30
  sh : (∃ p r, s = hat p r ∧ r ∈ rls ∧ 0 ≤ p ∧ p < m) ∨ ∃ p w b, s = pik p w b ∧ w ∈ wds k ∧ 0 ≤ b ∧ b ≤ 2 ∧ 0 ≤ p ∧ p < m
theorem st_f {k : Str} {m p : Nat} {s : D} (hk : k ∈ KS) (hm : 2 ≤ m) (hm5 : m ≤ 5) (hp : p < m) (hs : s ∈ stAt k p) : StF k m s ∧ plc s = p := by
  have h := all_st
  rw [List.all_eq_true] at h
  have h1 := h k hk
  rw [List.all_eq_true] at h1
  have hp5 : p ∈ [0, 1, 2, 3, 4] := by
    have : p < 5 := by omega
    simp; omega
  have h2 := h1 p hp5
  rw [List.all_eq_true] at h2
  have h3 := h2 s hs
  unfold okSt at h3
  simp only [Bool.and_eq_true, decide_eq_true_eq] at h3
  obtain ⟨⟨⟨⟨⟨⟨⟨⟨⟨⟨a1, a2⟩, a3⟩, a4⟩, a5⟩, a6⟩, a7⟩, a8⟩, a9⟩, a10⟩, a11⟩ := h3
  rw [List.all_eq_true] at a6
  have a6' := a6 m (by simp; omega)
  rw [decide_eq_true hp] at a6'
  refine ⟨⟨gives_eq a1, gives_eq a2, a3, a4, gives_eq (by simpa using a6'), gives_eq a7, gives_eq a8, gives_eq a9, a10, a11, ?_⟩, a5⟩
  unfold stAt at hs
  rcases List.mem_append.mp hs with hs | hs
  · obtain ⟨r, hr, rfl⟩ := List.mem_map.mp hs
    exact .inl ⟨p, r, rfl, hr, by omega, by omega⟩
  · obtain ⟨w, hw, hs⟩ := List.mem_flatMap.mp hs
    obtain ⟨b, hb, rfl⟩ := List.mem_map.mp hs
    refine .inr ⟨p, w, b, rfl, hw, ?_, ?_, by omega, by omega⟩ <;> (simp at hb; omega)
def bl (m : Nat) (k : Str) (ss : List D) : D := .tuple [.int m, .str k, .tuple ss]
def prod0 (m : Nat) (k : Str) : Int := (rngD 0 m).foldl (fun f _ => f * ((k.length : Int) + 1)) 1
def prd (m : Nat) (k : Str) (ss : List D) : Int := ss.foldl (fun f s => f * sts k s) (prod0 m k)
structure Blt (m : Nat) (k : Str) (ss : List D) : Prop where
  hk : k ∈ KS
  m2 : 2 ≤ m
  m5 : m ≤ 5
  ne : ss ≠ []
  n4 : ss.length ≤ 4
  st : ∀ s ∈ ss, StF k m s
  up : ss.Pairwise fun a b => plc a < plc b
  hh : ss.any isH = true
theorem k_len {k : Str} (h : k ∈ KS) : k.length ≤ 3 ∧ 1 ≤ k.length := by
  simp [KS] at h
  rcases h with rfl | rfl | rfl <;> decide +kernel
theorem lenk {k : Str} (h : k ∈ KS) : k.length ≤ most := by have := (k_len h).1; show _ ≤ 16000000; omega
def F1 (m : Nat) (k : Str) (ss : List D) (a : Int) (y : Sl) : Fr := [.val (bl m k ss), .val (.int m), .val (.str k), .val (.tuple ss), .val (.int a), y, .un]
def F2 (m : Nat) (k : Str) (ss : List D) (y1 : Sl) (a : Int) (y : Sl) : Fr := [.val (bl m k ss), .val (.int m), .val (.str k), .val (.tuple ss), .val (.int a), y1, y]
theorem mI {m : Nat} (h : m ≤ 5) : (m : Int) < 1000000 := by omega
theorem kI {k : Str} (h : k.length ≤ 3) : (k.length : Int) + 1 < 1000000000 := by omega
theorem kI0 {k : Str} : 0 ≤ (k.length : Int) + 1 := by omega
theorem t_prod {m : Nat} {k : Str} {ss : List D} (h : Blt m k ss) : g_product_of none [bl m k ss] = .ok (.int (prd m k ss)) false none := by
  have hl := lenk h.hk
  have h3 := kI (k_len h.hk).1
  have h30 := kI0 (k := k)
  have h5 := mI h.m5
  have l1 : ∃ y, evS l1_product_of (F1 m k ss 1 (ov none)) = .nx (F1 m k ss (prod0 m k) (ov y)) := by
    unfold l1_product_of
    rw [for_ev (ds := rngD 0 m) (en1 := F1 m k ss 1 (ov none)) (by simp [F1, gOf, noX, runF, endF, outOf, moN, start0, evSs, evS, evE, evEs, evP, evIf, evI, evTg, evTgs, evVar, evTake, evFrz, evLit, litD, evD, evBin, evUn, Res.bind, fin, rvD, asB, evB, evNot, evIte, evBlV, evAll, rvDs, valDs, evMk, mkTup, mkLst, evCallB, evMeth, evPart, evNoPart, evSl, intOf, intD, evChain, cmpI, evApp, evPop, evPop0, splitRs, putOut, evUser, evIter, srcOf, evSrc, lstOf, rng1_ok, rng2_ok, enum1, zip2, xSeq, xNil, xSet, xOwn, xAsg, xExpr, xRet, xIf, xPar, binG, cmpG, gAdd, gSub, gMul, gDiv, gMod, gPow, gNeg, gIdx, gSl, biG, gIsi, isTy, gCmpI, tgName, tgSub, tgTup, tgsCons, tgsNil, Tgs.len, CEs.len, locAt, Sl.loc, setC, evYes, evNone, ixN, smallB_ok, posB_ok, wipeF, wipeOk, wipeAt, backAt, gEq_int, gNe_int, gEq_str, gNe_str, gEq_bool, gNe_bool, gIs, gIsNot, isNon, lenD, meT, tyD_str, tyD_list, ati0, ati1, ati2, ati3, ov, h5])]
    refine forGo_acc (F1 m k ss) (fun f _ => f * ((k.length : Int) + 1)) (rngD 0 m) 1 none fun d hd a y => ⟨F1 m k ss a (ov (some d)), by cases y <;> simp [F1, gOf, noX, runF, endF, outOf, moN, start0, evSs, evS, evE, evEs, evP, evIf, evI, evTg, evTgs, evVar, evTake, evFrz, evLit, litD, evD, evBin, evUn, Res.bind, fin, rvD, asB, evB, evNot, evIte, evBlV, evAll, rvDs, valDs, evMk, mkTup, mkLst, evCallB, evMeth, evPart, evNoPart, evSl, intOf, intD, evChain, cmpI, evApp, evPop, evPop0, splitRs, putOut, evUser, evIter, srcOf, evSrc, lstOf, rng1_ok, rng2_ok, enum1, zip2, xSeq, xNil, xSet, xOwn, xAsg, xExpr, xRet, xIf, xPar, binG, cmpG, gAdd, gSub, gMul, gDiv, gMod, gPow, gNeg, gIdx, gSl, biG, gIsi, isTy, gCmpI, tgName, tgSub, tgTup, tgsCons, tgsNil, Tgs.len, CEs.len, locAt, Sl.loc, setC, evYes, evNone, ixN, smallB_ok, posB_ok, wipeF, wipeOk, wipeAt, backAt, gEq_int, gNe_int, gEq_str, gNe_str, gEq_bool, gNe_bool, gIs, gIsNot, isNon, lenD, meT, tyD_str, tyD_list, ati0, ati1, ati2, ati3, ov], some d, ?_⟩
    simp [F1, q1_product_of, gOf, noX, runF, endF, outOf, moN, start0, evSs, evS, evE, evEs, evP, evIf, evI, evTg, evTgs, evVar, evTake, evFrz, evLit, litD, evD, evBin, evUn, Res.bind, fin, rvD, asB, evB, evNot, evIte, evBlV, evAll, rvDs, valDs, evMk, mkTup, mkLst, evCallB, evMeth, evPart, evNoPart, evSl, intOf, intD, evChain, cmpI, evApp, evPop, evPop0, splitRs, putOut, evUser, evIter, srcOf, evSrc, lstOf, rng1_ok, rng2_ok, enum1, zip2, xSeq, xNil, xSet, xOwn, xAsg, xExpr, xRet, xIf, xPar, binG, cmpG, gAdd, gSub, gMul, gDiv, gMod, gPow, gNeg, gIdx, gSl, biG, gIsi, isTy, gCmpI, tgName, tgSub, tgTup, tgsCons, tgsNil, Tgs.len, CEs.len, locAt, Sl.loc, setC, evYes, evNone, ixN, smallB_ok, posB_ok, wipeF, wipeOk, wipeAt, backAt, gEq_int, gNe_int, gEq_str, gNe_str, gEq_bool, gNe_bool, gIs, gIsNot, isNon, lenD, meT, tyD_str, tyD_list, ati0, ati1, ati2, ati3, ov, lenD, hl, h3, h30]
  obtain ⟨y1, l1⟩ := l1
  have l2 : ∃ y, evS l2_product_of (F2 m k ss (ov y1) (prod0 m k) (ov none)) = .nx (F2 m k ss (ov y1) (prd m k ss) (ov y)) := by
    unfold l2_product_of
    rw [for_ev (ds := ss) (en1 := F2 m k ss (ov y1) (prod0 m k) (ov none)) (by simp [F2, gOf, noX, runF, endF, outOf, moN, start0, evSs, evS, evE, evEs, evP, evIf, evI, evTg, evTgs, evVar, evTake, evFrz, evLit, litD, evD, evBin, evUn, Res.bind, fin, rvD, asB, evB, evNot, evIte, evBlV, evAll, rvDs, valDs, evMk, mkTup, mkLst, evCallB, evMeth, evPart, evNoPart, evSl, intOf, intD, evChain, cmpI, evApp, evPop, evPop0, splitRs, putOut, evUser, evIter, srcOf, evSrc, lstOf, rng1_ok, rng2_ok, enum1, zip2, xSeq, xNil, xSet, xOwn, xAsg, xExpr, xRet, xIf, xPar, binG, cmpG, gAdd, gSub, gMul, gDiv, gMod, gPow, gNeg, gIdx, gSl, biG, gIsi, isTy, gCmpI, tgName, tgSub, tgTup, tgsCons, tgsNil, Tgs.len, CEs.len, locAt, Sl.loc, setC, evYes, evNone, ixN, smallB_ok, posB_ok, wipeF, wipeOk, wipeAt, backAt, gEq_int, gNe_int, gEq_str, gNe_str, gEq_bool, gNe_bool, gIs, gIsNot, isNon, lenD, meT, tyD_str, tyD_list, ati0, ati1, ati2, ati3, ov])]
    refine forGo_acc (F2 m k ss (ov y1)) (fun f s => f * sts k s) ss (prod0 m k) none fun d hd a y => ⟨F2 m k ss (ov y1) a (ov (some d)), by cases y <;> simp [F2, gOf, noX, runF, endF, outOf, moN, start0, evSs, evS, evE, evEs, evP, evIf, evI, evTg, evTgs, evVar, evTake, evFrz, evLit, litD, evD, evBin, evUn, Res.bind, fin, rvD, asB, evB, evNot, evIte, evBlV, evAll, rvDs, valDs, evMk, mkTup, mkLst, evCallB, evMeth, evPart, evNoPart, evSl, intOf, intD, evChain, cmpI, evApp, evPop, evPop0, splitRs, putOut, evUser, evIter, srcOf, evSrc, lstOf, rng1_ok, rng2_ok, enum1, zip2, xSeq, xNil, xSet, xOwn, xAsg, xExpr, xRet, xIf, xPar, binG, cmpG, gAdd, gSub, gMul, gDiv, gMod, gPow, gNeg, gIdx, gSl, biG, gIsi, isTy, gCmpI, tgName, tgSub, tgTup, tgsCons, tgsNil, Tgs.len, CEs.len, locAt, Sl.loc, setC, evYes, evNone, ixN, smallB_ok, posB_ok, wipeF, wipeOk, wipeAt, backAt, gEq_int, gNe_int, gEq_str, gNe_str, gEq_bool, gNe_bool, gIs, gIsNot, isNon, lenD, meT, tyD_str, tyD_list, ati0, ati1, ati2, ati3, ov], some d, ?_⟩
    have h1 : 0 ≤ sts k d := by have := (h.st d hd).s1; omega
    have h4 : sts k d < 1000000000 := by have := (h.st d hd).s2; omega
    simp [F2, q2_product_of, gOf, noX, runF, endF, outOf, moN, start0, evSs, evS, evE, evEs, evP, evIf, evI, evTg, evTgs, evVar, evTake, evFrz, evLit, litD, evD, evBin, evUn, Res.bind, fin, rvD, asB, evB, evNot, evIte, evBlV, evAll, rvDs, valDs, evMk, mkTup, mkLst, evCallB, evMeth, evPart, evNoPart, evSl, intOf, intD, evChain, cmpI, evApp, evPop, evPop0, splitRs, putOut, evUser, evIter, srcOf, evSrc, lstOf, rng1_ok, rng2_ok, enum1, zip2, xSeq, xNil, xSet, xOwn, xAsg, xExpr, xRet, xIf, xPar, binG, cmpG, gAdd, gSub, gMul, gDiv, gMod, gPow, gNeg, gIdx, gSl, biG, gIsi, isTy, gCmpI, tgName, tgSub, tgTup, tgsCons, tgsNil, Tgs.len, CEs.len, locAt, Sl.loc, setC, evYes, evNone, ixN, smallB_ok, posB_ok, wipeF, wipeOk, wipeAt, backAt, gEq_int, gNe_int, gEq_str, gNe_str, gEq_bool, gNe_bool, gIs, gIsNot, isNon, lenD, meT, tyD_str, tyD_list, ati0, ati1, ati2, ati3, ov, (h.st d hd).so, h1, h4]
  obtain ⟨y2, l2⟩ := l2
  simp only [F1, F2, ov, bl] at l1 l2
  simp [g_product_of, b_product_of, gOf, noX, runF, endF, outOf, moN, start0, evSs, evS, evE, evEs, evP, evIf, evI, evTg, evTgs, evVar, evTake, evFrz, evLit, litD, evD, evBin, evUn, Res.bind, fin, rvD, asB, evB, evNot, evIte, evBlV, evAll, rvDs, valDs, evMk, mkTup, mkLst, evCallB, evMeth, evPart, evNoPart, evSl, intOf, intD, evChain, cmpI, evApp, evPop, evPop0, splitRs, putOut, evUser, evIter, srcOf, evSrc, lstOf, rng1_ok, rng2_ok, enum1, zip2, xSeq, xNil, xSet, xOwn, xAsg, xExpr, xRet, xIf, xPar, binG, cmpG, gAdd, gSub, gMul, gDiv, gMod, gPow, gNeg, gIdx, gSl, biG, gIsi, isTy, gCmpI, tgName, tgSub, tgTup, tgsCons, tgsNil, Tgs.len, CEs.len, locAt, Sl.loc, setC, evYes, evNone, ixN, smallB_ok, posB_ok, wipeF, wipeOk, wipeAt, backAt, gEq_int, gNe_int, gEq_str, gNe_str, gEq_bool, gNe_bool, gIs, gIsNot, isNon, lenD, meT, tyD_str, tyD_list, ati0, ati1, ati2, ati3, bl, l1, l2]
end Mi
set_option Elab.async false
set_option linter.all false
set_option maxRecDepth 100000
set_option autoImplicit false
namespace Mi
open PySem PySem.Spec L2
def F3 (m : Nat) (k : Str) (ss : List D) (a : Int) (y : Sl) : Fr := [.val (bl m k ss), .val (.int a), y, .un]
def F4 (m : Nat) (k : Str) (ss : List D) (y1 : Sl) (a : Int) (y : Sl) : Fr := [.val (bl m k ss), .val (.int a), y1, y]
theorem t_lprod {m : Nat} {k : Str} {ss : List D} (h : Blt m k ss) : g__law_product none [bl m k ss] = .ok (.int (prd m k ss)) false none := by
  have hl := lenk h.hk
  have h3 := kI (k_len h.hk).1
  have h30 := kI0 (k := k)
  have h5 := mI h.m5
  have l1 : ∃ y, evS l1__law_product (F3 m k ss 1 (ov none)) = .nx (F3 m k ss (prod0 m k) (ov y)) := by
    unfold l1__law_product
    rw [for_ev (ds := rngD 0 m) (en1 := F3 m k ss 1 (ov none)) (by simp [F3, gOf, noX, runF, endF, outOf, moN, start0, evSs, evS, evE, evEs, evP, evIf, evI, evTg, evTgs, evVar, evTake, evFrz, evLit, litD, evD, evBin, evUn, Res.bind, fin, rvD, asB, evB, evNot, evIte, evBlV, evAll, rvDs, valDs, evMk, mkTup, mkLst, evCallB, evMeth, evPart, evNoPart, evSl, intOf, intD, evChain, cmpI, evApp, evPop, evPop0, splitRs, putOut, evUser, evIter, srcOf, evSrc, lstOf, rng1_ok, rng2_ok, enum1, zip2, xSeq, xNil, xSet, xOwn, xAsg, xExpr, xRet, xIf, xPar, binG, cmpG, gAdd, gSub, gMul, gDiv, gMod, gPow, gNeg, gIdx, gSl, biG, gIsi, isTy, gCmpI, tgName, tgSub, tgTup, tgsCons, tgsNil, Tgs.len, CEs.len, locAt, Sl.loc, setC, evYes, evNone, ixN, smallB_ok, posB_ok, wipeF, wipeOk, wipeAt, backAt, gEq_int, gNe_int, gEq_str, gNe_str, gEq_bool, gNe_bool, gIs, gIsNot, isNon, lenD, meT, tyD_str, tyD_list, ati0, ati1, ati2, ati3, ov, h5, bl])]
    refine forGo_acc (F3 m k ss) (fun f _ => f * ((k.length : Int) + 1)) (rngD 0 m) 1 none fun d hd a y => ⟨F3 m k ss a (ov (some d)), by cases y <;> simp [F3, gOf, noX, runF, endF, outOf, moN, start0, evSs, evS, evE, evEs, evP, evIf, evI, evTg, evTgs, evVar, evTake, evFrz, evLit, litD, evD, evBin, evUn, Res.bind, fin, rvD, asB, evB, evNot, evIte, evBlV, evAll, rvDs, valDs, evMk, mkTup, mkLst, evCallB, evMeth, evPart, evNoPart, evSl, intOf, intD, evChain, cmpI, evApp, evPop, evPop0, splitRs, putOut, evUser, evIter, srcOf, evSrc, lstOf, rng1_ok, rng2_ok, enum1, zip2, xSeq, xNil, xSet, xOwn, xAsg, xExpr, xRet, xIf, xPar, binG, cmpG, gAdd, gSub, gMul, gDiv, gMod, gPow, gNeg, gIdx, gSl, biG, gIsi, isTy, gCmpI, tgName, tgSub, tgTup, tgsCons, tgsNil, Tgs.len, CEs.len, locAt, Sl.loc, setC, evYes, evNone, ixN, smallB_ok, posB_ok, wipeF, wipeOk, wipeAt, backAt, gEq_int, gNe_int, gEq_str, gNe_str, gEq_bool, gNe_bool, gIs, gIsNot, isNon, lenD, meT, tyD_str, tyD_list, ati0, ati1, ati2, ati3, ov], some d, ?_⟩
    simp [F3, q1__law_product, gOf, noX, runF, endF, outOf, moN, start0, evSs, evS, evE, evEs, evP, evIf, evI, evTg, evTgs, evVar, evTake, evFrz, evLit, litD, evD, evBin, evUn, Res.bind, fin, rvD, asB, evB, evNot, evIte, evBlV, evAll, rvDs, valDs, evMk, mkTup, mkLst, evCallB, evMeth, evPart, evNoPart, evSl, intOf, intD, evChain, cmpI, evApp, evPop, evPop0, splitRs, putOut, evUser, evIter, srcOf, evSrc, lstOf, rng1_ok, rng2_ok, enum1, zip2, xSeq, xNil, xSet, xOwn, xAsg, xExpr, xRet, xIf, xPar, binG, cmpG, gAdd, gSub, gMul, gDiv, gMod, gPow, gNeg, gIdx, gSl, biG, gIsi, isTy, gCmpI, tgName, tgSub, tgTup, tgsCons, tgsNil, Tgs.len, CEs.len, locAt, Sl.loc, setC, evYes, evNone, ixN, smallB_ok, posB_ok, wipeF, wipeOk, wipeAt, backAt, gEq_int, gNe_int, gEq_str, gNe_str, gEq_bool, gNe_bool, gIs, gIsNot, isNon, lenD, meT, tyD_str, tyD_list, ati0, ati1, ati2, ati3, ov, lenD, hl, h3, h30, bl]
  obtain ⟨y1, l1⟩ := l1
  have l2 : ∃ y, evS l2__law_product (F4 m k ss (ov y1) (prod0 m k) (ov none)) = .nx (F4 m k ss (ov y1) (prd m k ss) (ov y)) := by
    unfold l2__law_product
    rw [for_ev (ds := ss) (en1 := F4 m k ss (ov y1) (prod0 m k) (ov none)) (by simp [F4, gOf, noX, runF, endF, outOf, moN, start0, evSs, evS, evE, evEs, evP, evIf, evI, evTg, evTgs, evVar, evTake, evFrz, evLit, litD, evD, evBin, evUn, Res.bind, fin, rvD, asB, evB, evNot, evIte, evBlV, evAll, rvDs, valDs, evMk, mkTup, mkLst, evCallB, evMeth, evPart, evNoPart, evSl, intOf, intD, evChain, cmpI, evApp, evPop, evPop0, splitRs, putOut, evUser, evIter, srcOf, evSrc, lstOf, rng1_ok, rng2_ok, enum1, zip2, xSeq, xNil, xSet, xOwn, xAsg, xExpr, xRet, xIf, xPar, binG, cmpG, gAdd, gSub, gMul, gDiv, gMod, gPow, gNeg, gIdx, gSl, biG, gIsi, isTy, gCmpI, tgName, tgSub, tgTup, tgsCons, tgsNil, Tgs.len, CEs.len, locAt, Sl.loc, setC, evYes, evNone, ixN, smallB_ok, posB_ok, wipeF, wipeOk, wipeAt, backAt, gEq_int, gNe_int, gEq_str, gNe_str, gEq_bool, gNe_bool, gIs, gIsNot, isNon, lenD, meT, tyD_str, tyD_list, ati0, ati1, ati2, ati3, ov, bl])]
    refine forGo_acc (F4 m k ss (ov y1)) (fun f s => f * sts k s) ss (prod0 m k) none fun d hd a y => ⟨F4 m k ss (ov y1) a (ov (some d)), by cases y <;> simp [F4, gOf, noX, runF, endF, outOf, moN, start0, evSs, evS, evE, evEs, evP, evIf, evI, evTg, evTgs, evVar, evTake, evFrz, evLit, litD, evD, evBin, evUn, Res.bind, fin, rvD, asB, evB, evNot, evIte, evBlV, evAll, rvDs, valDs, evMk, mkTup, mkLst, evCallB, evMeth, evPart, evNoPart, evSl, intOf, intD, evChain, cmpI, evApp, evPop, evPop0, splitRs, putOut, evUser, evIter, srcOf, evSrc, lstOf, rng1_ok, rng2_ok, enum1, zip2, xSeq, xNil, xSet, xOwn, xAsg, xExpr, xRet, xIf, xPar, binG, cmpG, gAdd, gSub, gMul, gDiv, gMod, gPow, gNeg, gIdx, gSl, biG, gIsi, isTy, gCmpI, tgName, tgSub, tgTup, tgsCons, tgsNil, Tgs.len, CEs.len, locAt, Sl.loc, setC, evYes, evNone, ixN, smallB_ok, posB_ok, wipeF, wipeOk, wipeAt, backAt, gEq_int, gNe_int, gEq_str, gNe_str, gEq_bool, gNe_bool, gIs, gIsNot, isNon, lenD, meT, tyD_str, tyD_list, ati0, ati1, ati2, ati3, ov], some d, ?_⟩
    have h1 : 0 ≤ sts k d := by have := (h.st d hd).s1; omega
    have h4 : sts k d < 1000000000 := by have := (h.st d hd).s2; omega
    simp [F4, q2__law_product, gOf, noX, runF, endF, outOf, moN, start0, evSs, evS, evE, evEs, evP, evIf, evI, evTg, evTgs, evVar, evTake, evFrz, evLit, litD, evD, evBin, evUn, Res.bind, fin, rvD, asB, evB, evNot, evIte, evBlV, evAll, rvDs, valDs, evMk, mkTup, mkLst, evCallB, evMeth, evPart, evNoPart, evSl, intOf, intD, evChain, cmpI, evApp, evPop, evPop0, splitRs, putOut, evUser, evIter, srcOf, evSrc, lstOf, rng1_ok, rng2_ok, enum1, zip2, xSeq, xNil, xSet, xOwn, xAsg, xExpr, xRet, xIf, xPar, binG, cmpG, gAdd, gSub, gMul, gDiv, gMod, gPow, gNeg, gIdx, gSl, biG, gIsi, isTy, gCmpI, tgName, tgSub, tgTup, tgsCons, tgsNil, Tgs.len, CEs.len, locAt, Sl.loc, setC, evYes, evNone, ixN, smallB_ok, posB_ok, wipeF, wipeOk, wipeAt, backAt, gEq_int, gNe_int, gEq_str, gNe_str, gEq_bool, gNe_bool, gIs, gIsNot, isNon, lenD, meT, tyD_str, tyD_list, ati0, ati1, ati2, ati3, ov, (h.st d hd).ls, h1, h4, bl]
  obtain ⟨y2, l2⟩ := l2
  simp only [F3, F4, ov, bl] at l1 l2
  simp [g__law_product, b__law_product, gOf, noX, runF, endF, outOf, moN, start0, evSs, evS, evE, evEs, evP, evIf, evI, evTg, evTgs, evVar, evTake, evFrz, evLit, litD, evD, evBin, evUn, Res.bind, fin, rvD, asB, evB, evNot, evIte, evBlV, evAll, rvDs, valDs, evMk, mkTup, mkLst, evCallB, evMeth, evPart, evNoPart, evSl, intOf, intD, evChain, cmpI, evApp, evPop, evPop0, splitRs, putOut, evUser, evIter, srcOf, evSrc, lstOf, rng1_ok, rng2_ok, enum1, zip2, xSeq, xNil, xSet, xOwn, xAsg, xExpr, xRet, xIf, xPar, binG, cmpG, gAdd, gSub, gMul, gDiv, gMod, gPow, gNeg, gIdx, gSl, biG, gIsi, isTy, gCmpI, tgName, tgSub, tgTup, tgsCons, tgsNil, Tgs.len, CEs.len, locAt, Sl.loc, setC, evYes, evNone, ixN, smallB_ok, posB_ok, wipeF, wipeOk, wipeAt, backAt, gEq_int, gNe_int, gEq_str, gNe_str, gEq_bool, gNe_bool, gIs, gIsNot, isNon, lenD, meT, tyD_str, tyD_list, ati0, ati1, ati2, ati3, bl, l1, l2]
theorem t_within (v lo hi : Int) : g_is_within none [.int v, .int lo, .int hi] = .ok (.bool (decide (lo ≤ v) && decide (v ≤ hi))) false none := by
  by_cases h : lo ≤ v
  · simp [g_is_within, b_is_within, gOf, noX, runF, endF, outOf, moN, start0, evSs, evS, evE, evEs, evP, evIf, evI, evTg, evTgs, evVar, evTake, evFrz, evLit, litD, evD, evBin, evUn, Res.bind, fin, rvD, asB, evB, evNot, evIte, evBlV, evAll, rvDs, valDs, evMk, mkTup, mkLst, evCallB, evMeth, evPart, evNoPart, evSl, intOf, intD, evChain, cmpI, evApp, evPop, evPop0, splitRs, putOut, evUser, evIter, srcOf, evSrc, lstOf, rng1_ok, rng2_ok, enum1, zip2, xSeq, xNil, xSet, xOwn, xAsg, xExpr, xRet, xIf, xPar, binG, cmpG, gAdd, gSub, gMul, gDiv, gMod, gPow, gNeg, gIdx, gSl, biG, gIsi, isTy, gCmpI, tgName, tgSub, tgTup, tgsCons, tgsNil, Tgs.len, CEs.len, locAt, Sl.loc, setC, evYes, evNone, ixN, smallB_ok, posB_ok, wipeF, wipeOk, wipeAt, backAt, gEq_int, gNe_int, gEq_str, gNe_str, gEq_bool, gNe_bool, gIs, gIsNot, isNon, lenD, meT, tyD_str, tyD_list, ati0, ati1, ati2, ati3, h]
  · simp [g_is_within, b_is_within, gOf, noX, runF, endF, outOf, moN, start0, evSs, evS, evE, evEs, evP, evIf, evI, evTg, evTgs, evVar, evTake, evFrz, evLit, litD, evD, evBin, evUn, Res.bind, fin, rvD, asB, evB, evNot, evIte, evBlV, evAll, rvDs, valDs, evMk, mkTup, mkLst, evCallB, evMeth, evPart, evNoPart, evSl, intOf, intD, evChain, cmpI, evApp, evPop, evPop0, splitRs, putOut, evUser, evIter, srcOf, evSrc, lstOf, rng1_ok, rng2_ok, enum1, zip2, xSeq, xNil, xSet, xOwn, xAsg, xExpr, xRet, xIf, xPar, binG, cmpG, gAdd, gSub, gMul, gDiv, gMod, gPow, gNeg, gIdx, gSl, biG, gIsi, isTy, gCmpI, tgName, tgSub, tgTup, tgsCons, tgsNil, Tgs.len, CEs.len, locAt, Sl.loc, setC, evYes, evNone, ixN, smallB_ok, posB_ok, wipeF, wipeOk, wipeAt, backAt, gEq_int, gNe_int, gEq_str, gNe_str, gEq_bool, gNe_bool, gIs, gIsNot, isNon, lenD, meT, tyD_str, tyD_list, ati0, ati1, ati2, ati3, h]
theorem in_K {k : Str} (h : k ∈ KS) : gNotIn (.str k) d_KINDS = some (.bool false, false) := by
  simp [KS] at h
  rcases h with rfl | rfl | rfl <;> rfl
theorem st_ix {k : Str} {m : Nat} {s : D} (h : StF k m s) : ∃ x xs, s = .tuple (x :: .int (plc s) :: xs) := by
  rcases h.sh with ⟨p, r, rfl, _⟩ | ⟨p, w, b, rfl, _⟩ <;> exact ⟨_, _, rfl⟩
def F5 (m : Nat) (k : Str) (ss : List D) : Fr := [.val (bl m k ss), .val (.int m), .val (.str k), .val (.tuple ss), .un, .un, .un]
theorem t_ibv {m : Nat} {k : Str} {ss : List D} (h : Blt m k ss) (hp : prd m k ss ≤ 3000) : g_is_belt_value none [bl m k ss] = .ok (.bool true) false none := by
  have hm : ss.length ≤ most := Nat.le_trans h.n4 (by decide)
  have c1 : evE c1_is_belt_value (F5 m k ss) = .ok (.val (.list (ss.map fun s => .bool true)) true) (F5 m k ss) := by
    unfold c1_is_belt_value
    refine comp_ev (en1 := F5 m k ss) (en2 := F5 m k ss) (en3 := F5 m k ss) (ds := ss) (by simp [F5, gOf, noX, runF, endF, outOf, moN, start0, evSs, evS, evE, evEs, evP, evIf, evI, evTg, evTgs, evVar, evTake, evFrz, evLit, litD, evD, evBin, evUn, Res.bind, fin, rvD, asB, evB, evNot, evIte, evBlV, evAll, rvDs, valDs, evMk, mkTup, mkLst, evCallB, evMeth, evPart, evNoPart, evSl, intOf, intD, evChain, cmpI, evApp, evPop, evPop0, splitRs, putOut, evUser, evIter, srcOf, evSrc, lstOf, rng1_ok, rng2_ok, enum1, zip2, xSeq, xNil, xSet, xOwn, xAsg, xExpr, xRet, xIf, xPar, binG, cmpG, gAdd, gSub, gMul, gDiv, gMod, gPow, gNeg, gIdx, gSl, biG, gIsi, isTy, gCmpI, tgName, tgSub, tgTup, tgsCons, tgsNil, Tgs.len, CEs.len, locAt, Sl.loc, setC, evYes, evNone, ixN, smallB_ok, posB_ok, wipeF, wipeOk, wipeAt, backAt, gEq_int, gNe_int, gEq_str, gNe_str, gEq_bool, gNe_bool, gIs, gIsNot, isNon, lenD, meT, tyD_str, tyD_list, ati0, ati1, ati2, ati3]) (by simp [F5, gOf, noX, runF, endF, outOf, moN, start0, evSs, evS, evE, evEs, evP, evIf, evI, evTg, evTgs, evVar, evTake, evFrz, evLit, litD, evD, evBin, evUn, Res.bind, fin, rvD, asB, evB, evNot, evIte, evBlV, evAll, rvDs, valDs, evMk, mkTup, mkLst, evCallB, evMeth, evPart, evNoPart, evSl, intOf, intD, evChain, cmpI, evApp, evPop, evPop0, splitRs, putOut, evUser, evIter, srcOf, evSrc, lstOf, rng1_ok, rng2_ok, enum1, zip2, xSeq, xNil, xSet, xOwn, xAsg, xExpr, xRet, xIf, xPar, binG, cmpG, gAdd, gSub, gMul, gDiv, gMod, gPow, gNeg, gIdx, gSl, biG, gIsi, isTy, gCmpI, tgName, tgSub, tgTup, tgsCons, tgsNil, Tgs.len, CEs.len, locAt, Sl.loc, setC, evYes, evNone, ixN, smallB_ok, posB_ok, wipeF, wipeOk, wipeAt, backAt, gEq_int, gNe_int, gEq_str, gNe_str, gEq_bool, gNe_bool, gIs, gIsNot, isNon, lenD, meT, tyD_str, tyD_list, ati0, ati1, ati2, ati3]) hm (compGo_map ss fun d hd => ?_) (by simp [F5, gOf, noX, runF, endF, outOf, moN, start0, evSs, evS, evE, evEs, evP, evIf, evI, evTg, evTgs, evVar, evTake, evFrz, evLit, litD, evD, evBin, evUn, Res.bind, fin, rvD, asB, evB, evNot, evIte, evBlV, evAll, rvDs, valDs, evMk, mkTup, mkLst, evCallB, evMeth, evPart, evNoPart, evSl, intOf, intD, evChain, cmpI, evApp, evPop, evPop0, splitRs, putOut, evUser, evIter, srcOf, evSrc, lstOf, rng1_ok, rng2_ok, enum1, zip2, xSeq, xNil, xSet, xOwn, xAsg, xExpr, xRet, xIf, xPar, binG, cmpG, gAdd, gSub, gMul, gDiv, gMod, gPow, gNeg, gIdx, gSl, biG, gIsi, isTy, gCmpI, tgName, tgSub, tgTup, tgsCons, tgsNil, Tgs.len, CEs.len, locAt, Sl.loc, setC, evYes, evNone, ixN, smallB_ok, posB_ok, wipeF, wipeOk, wipeAt, backAt, gEq_int, gNe_int, gEq_str, gNe_str, gEq_bool, gNe_bool, gIs, gIsNot, isNon, lenD, meT, tyD_str, tyD_list, ati0, ati1, ati2, ati3])
    exact ⟨[.val (bl m k ss), .val (.int m), .val (.str k), .val (.tuple ss), .val d, .un, .un], [.val (bl m k ss), .val (.int m), .val (.str k), .val (.tuple ss), .val d, .un, .un], [.val (bl m k ss), .val (.int m), .val (.str k), .val (.tuple ss), .val d, .un, .un], false, by simp [F5, gOf, noX, runF, endF, outOf, moN, start0, evSs, evS, evE, evEs, evP, evIf, evI, evTg, evTgs, evVar, evTake, evFrz, evLit, litD, evD, evBin, evUn, Res.bind, fin, rvD, asB, evB, evNot, evIte, evBlV, evAll, rvDs, valDs, evMk, mkTup, mkLst, evCallB, evMeth, evPart, evNoPart, evSl, intOf, intD, evChain, cmpI, evApp, evPop, evPop0, splitRs, putOut, evUser, evIter, srcOf, evSrc, lstOf, rng1_ok, rng2_ok, enum1, zip2, xSeq, xNil, xSet, xOwn, xAsg, xExpr, xRet, xIf, xPar, binG, cmpG, gAdd, gSub, gMul, gDiv, gMod, gPow, gNeg, gIdx, gSl, biG, gIsi, isTy, gCmpI, tgName, tgSub, tgTup, tgsCons, tgsNil, Tgs.len, CEs.len, locAt, Sl.loc, setC, evYes, evNone, ixN, smallB_ok, posB_ok, wipeF, wipeOk, wipeAt, backAt, gEq_int, gNe_int, gEq_str, gNe_str, gEq_bool, gNe_bool, gIs, gIsNot, isNon, lenD, meT, tyD_str, tyD_list, ati0, ati1, ati2, ati3], by simp [F5, gOf, noX, runF, endF, outOf, moN, start0, evSs, evS, evE, evEs, evP, evIf, evI, evTg, evTgs, evVar, evTake, evFrz, evLit, litD, evD, evBin, evUn, Res.bind, fin, rvD, asB, evB, evNot, evIte, evBlV, evAll, rvDs, valDs, evMk, mkTup, mkLst, evCallB, evMeth, evPart, evNoPart, evSl, intOf, intD, evChain, cmpI, evApp, evPop, evPop0, splitRs, putOut, evUser, evIter, srcOf, evSrc, lstOf, rng1_ok, rng2_ok, enum1, zip2, xSeq, xNil, xSet, xOwn, xAsg, xExpr, xRet, xIf, xPar, binG, cmpG, gAdd, gSub, gMul, gDiv, gMod, gPow, gNeg, gIdx, gSl, biG, gIsi, isTy, gCmpI, tgName, tgSub, tgTup, tgsCons, tgsNil, Tgs.len, CEs.len, locAt, Sl.loc, setC, evYes, evNone, ixN, smallB_ok, posB_ok, wipeF, wipeOk, wipeAt, backAt, gEq_int, gNe_int, gEq_str, gNe_str, gEq_bool, gNe_bool, gIs, gIsNot, isNon, lenD, meT, tyD_str, tyD_list, ati0, ati1, ati2, ati3], by simp [F5, gOf, noX, runF, endF, outOf, moN, start0, evSs, evS, evE, evEs, evP, evIf, evI, evTg, evTgs, evVar, evTake, evFrz, evLit, litD, evD, evBin, evUn, Res.bind, fin, rvD, asB, evB, evNot, evIte, evBlV, evAll, rvDs, valDs, evMk, mkTup, mkLst, evCallB, evMeth, evPart, evNoPart, evSl, intOf, intD, evChain, cmpI, evApp, evPop, evPop0, splitRs, putOut, evUser, evIter, srcOf, evSrc, lstOf, rng1_ok, rng2_ok, enum1, zip2, xSeq, xNil, xSet, xOwn, xAsg, xExpr, xRet, xIf, xPar, binG, cmpG, gAdd, gSub, gMul, gDiv, gMod, gPow, gNeg, gIdx, gSl, biG, gIsi, isTy, gCmpI, tgName, tgSub, tgTup, tgsCons, tgsNil, Tgs.len, CEs.len, locAt, Sl.loc, setC, evYes, evNone, ixN, smallB_ok, posB_ok, wipeF, wipeOk, wipeAt, backAt, gEq_int, gNe_int, gEq_str, gNe_str, gEq_bool, gNe_bool, gIs, gIsNot, isNon, lenD, meT, tyD_str, tyD_list, ati0, ati1, ati2, ati3, (h.st d hd).is], by simp [F5, gOf, noX, runF, endF, outOf, moN, start0, evSs, evS, evE, evEs, evP, evIf, evI, evTg, evTgs, evVar, evTake, evFrz, evLit, litD, evD, evBin, evUn, Res.bind, fin, rvD, asB, evB, evNot, evIte, evBlV, evAll, rvDs, valDs, evMk, mkTup, mkLst, evCallB, evMeth, evPart, evNoPart, evSl, intOf, intD, evChain, cmpI, evApp, evPop, evPop0, splitRs, putOut, evUser, evIter, srcOf, evSrc, lstOf, rng1_ok, rng2_ok, enum1, zip2, xSeq, xNil, xSet, xOwn, xAsg, xExpr, xRet, xIf, xPar, binG, cmpG, gAdd, gSub, gMul, gDiv, gMod, gPow, gNeg, gIdx, gSl, biG, gIsi, isTy, gCmpI, tgName, tgSub, tgTup, tgsCons, tgsNil, Tgs.len, CEs.len, locAt, Sl.loc, setC, evYes, evNone, ixN, smallB_ok, posB_ok, wipeF, wipeOk, wipeAt, backAt, gEq_int, gNe_int, gEq_str, gNe_str, gEq_bool, gNe_bool, gIs, gIsNot, isNon, lenD, meT, tyD_str, tyD_list, ati0, ati1, ati2, ati3]⟩
  have c2 : evE c2_is_belt_value (F5 m k ss) = .ok (.val (.list ((zipD ss (ss.drop 1)).map fun s => .bool true)) true) (F5 m k ss) := by
    unfold c2_is_belt_value
    refine comp_ev (en1 := F5 m k ss) (en2 := F5 m k ss) (en3 := F5 m k ss) (ds := zipD ss (ss.drop 1)) (by simp [F5, gOf, noX, runF, endF, outOf, moN, start0, evSs, evS, evE, evEs, evP, evIf, evI, evTg, evTgs, evVar, evTake, evFrz, evLit, litD, evD, evBin, evUn, Res.bind, fin, rvD, asB, evB, evNot, evIte, evBlV, evAll, rvDs, valDs, evMk, mkTup, mkLst, evCallB, evMeth, evPart, evNoPart, evSl, intOf, intD, evChain, cmpI, evApp, evPop, evPop0, splitRs, putOut, evUser, evIter, srcOf, evSrc, lstOf, rng1_ok, rng2_ok, enum1, zip2, xSeq, xNil, xSet, xOwn, xAsg, xExpr, xRet, xIf, xPar, binG, cmpG, gAdd, gSub, gMul, gDiv, gMod, gPow, gNeg, gIdx, gSl, biG, gIsi, isTy, gCmpI, tgName, tgSub, tgTup, tgsCons, tgsNil, Tgs.len, CEs.len, locAt, Sl.loc, setC, evYes, evNone, ixN, smallB_ok, posB_ok, wipeF, wipeOk, wipeAt, backAt, gEq_int, gNe_int, gEq_str, gNe_str, gEq_bool, gNe_bool, gIs, gIsNot, isNon, lenD, meT, tyD_str, tyD_list, ati0, ati1, ati2, ati3, cut_from1]) (by simp [F5, gOf, noX, runF, endF, outOf, moN, start0, evSs, evS, evE, evEs, evP, evIf, evI, evTg, evTgs, evVar, evTake, evFrz, evLit, litD, evD, evBin, evUn, Res.bind, fin, rvD, asB, evB, evNot, evIte, evBlV, evAll, rvDs, valDs, evMk, mkTup, mkLst, evCallB, evMeth, evPart, evNoPart, evSl, intOf, intD, evChain, cmpI, evApp, evPop, evPop0, splitRs, putOut, evUser, evIter, srcOf, evSrc, lstOf, rng1_ok, rng2_ok, enum1, zip2, xSeq, xNil, xSet, xOwn, xAsg, xExpr, xRet, xIf, xPar, binG, cmpG, gAdd, gSub, gMul, gDiv, gMod, gPow, gNeg, gIdx, gSl, biG, gIsi, isTy, gCmpI, tgName, tgSub, tgTup, tgsCons, tgsNil, Tgs.len, CEs.len, locAt, Sl.loc, setC, evYes, evNone, ixN, smallB_ok, posB_ok, wipeF, wipeOk, wipeAt, backAt, gEq_int, gNe_int, gEq_str, gNe_str, gEq_bool, gNe_bool, gIs, gIsNot, isNon, lenD, meT, tyD_str, tyD_list, ati0, ati1, ati2, ati3]) (by rw [zip_len]; exact Nat.le_trans (Nat.min_le_left _ _) hm) (compGo_map _ fun d hd => ?_) (by simp [F5, gOf, noX, runF, endF, outOf, moN, start0, evSs, evS, evE, evEs, evP, evIf, evI, evTg, evTgs, evVar, evTake, evFrz, evLit, litD, evD, evBin, evUn, Res.bind, fin, rvD, asB, evB, evNot, evIte, evBlV, evAll, rvDs, valDs, evMk, mkTup, mkLst, evCallB, evMeth, evPart, evNoPart, evSl, intOf, intD, evChain, cmpI, evApp, evPop, evPop0, splitRs, putOut, evUser, evIter, srcOf, evSrc, lstOf, rng1_ok, rng2_ok, enum1, zip2, xSeq, xNil, xSet, xOwn, xAsg, xExpr, xRet, xIf, xPar, binG, cmpG, gAdd, gSub, gMul, gDiv, gMod, gPow, gNeg, gIdx, gSl, biG, gIsi, isTy, gCmpI, tgName, tgSub, tgTup, tgsCons, tgsNil, Tgs.len, CEs.len, locAt, Sl.loc, setC, evYes, evNone, ixN, smallB_ok, posB_ok, wipeF, wipeOk, wipeAt, backAt, gEq_int, gNe_int, gEq_str, gNe_str, gEq_bool, gNe_bool, gIs, gIsNot, isNon, lenD, meT, tyD_str, tyD_list, ati0, ati1, ati2, ati3])
    obtain ⟨i, x, y, e1, e2, rfl⟩ := zip_mem hd
    rw [List.getElem?_drop] at e2
    have lt : plc x < plc y := by
      obtain ⟨l1, r1⟩ := List.getElem?_eq_some_iff.mp e1
      obtain ⟨l2, r2⟩ := List.getElem?_eq_some_iff.mp e2
      have := List.pairwise_iff_getElem.mp h.up i (1 + i) l1 l2 (by omega)
      rwa [r1, r2] at this
    obtain ⟨a, as, ea⟩ := st_ix (h.st x (List.mem_of_getElem? e1))
    obtain ⟨b, bs, eb⟩ := st_ix (h.st y (List.mem_of_getElem? e2))
    refine ⟨[.val (bl m k ss), .val (.int m), .val (.str k), .val (.tuple ss), .un, .val x, .val y], [.val (bl m k ss), .val (.int m), .val (.str k), .val (.tuple ss), .un, .val x, .val y], [.val (bl m k ss), .val (.int m), .val (.str k), .val (.tuple ss), .un, .val x, .val y], false, by simp [F5, gOf, noX, runF, endF, outOf, moN, start0, evSs, evS, evE, evEs, evP, evIf, evI, evTg, evTgs, evVar, evTake, evFrz, evLit, litD, evD, evBin, evUn, Res.bind, fin, rvD, asB, evB, evNot, evIte, evBlV, evAll, rvDs, valDs, evMk, mkTup, mkLst, evCallB, evMeth, evPart, evNoPart, evSl, intOf, intD, evChain, cmpI, evApp, evPop, evPop0, splitRs, putOut, evUser, evIter, srcOf, evSrc, lstOf, rng1_ok, rng2_ok, enum1, zip2, xSeq, xNil, xSet, xOwn, xAsg, xExpr, xRet, xIf, xPar, binG, cmpG, gAdd, gSub, gMul, gDiv, gMod, gPow, gNeg, gIdx, gSl, biG, gIsi, isTy, gCmpI, tgName, tgSub, tgTup, tgsCons, tgsNil, Tgs.len, CEs.len, locAt, Sl.loc, setC, evYes, evNone, ixN, smallB_ok, posB_ok, wipeF, wipeOk, wipeAt, backAt, gEq_int, gNe_int, gEq_str, gNe_str, gEq_bool, gNe_bool, gIs, gIsNot, isNon, lenD, meT, tyD_str, tyD_list, ati0, ati1, ati2, ati3], by simp [F5, gOf, noX, runF, endF, outOf, moN, start0, evSs, evS, evE, evEs, evP, evIf, evI, evTg, evTgs, evVar, evTake, evFrz, evLit, litD, evD, evBin, evUn, Res.bind, fin, rvD, asB, evB, evNot, evIte, evBlV, evAll, rvDs, valDs, evMk, mkTup, mkLst, evCallB, evMeth, evPart, evNoPart, evSl, intOf, intD, evChain, cmpI, evApp, evPop, evPop0, splitRs, putOut, evUser, evIter, srcOf, evSrc, lstOf, rng1_ok, rng2_ok, enum1, zip2, xSeq, xNil, xSet, xOwn, xAsg, xExpr, xRet, xIf, xPar, binG, cmpG, gAdd, gSub, gMul, gDiv, gMod, gPow, gNeg, gIdx, gSl, biG, gIsi, isTy, gCmpI, tgName, tgSub, tgTup, tgsCons, tgsNil, Tgs.len, CEs.len, locAt, Sl.loc, setC, evYes, evNone, ixN, smallB_ok, posB_ok, wipeF, wipeOk, wipeAt, backAt, gEq_int, gNe_int, gEq_str, gNe_str, gEq_bool, gNe_bool, gIs, gIsNot, isNon, lenD, meT, tyD_str, tyD_list, ati0, ati1, ati2, ati3], ?_, by simp [F5, gOf, noX, runF, endF, outOf, moN, start0, evSs, evS, evE, evEs, evP, evIf, evI, evTg, evTgs, evVar, evTake, evFrz, evLit, litD, evD, evBin, evUn, Res.bind, fin, rvD, asB, evB, evNot, evIte, evBlV, evAll, rvDs, valDs, evMk, mkTup, mkLst, evCallB, evMeth, evPart, evNoPart, evSl, intOf, intD, evChain, cmpI, evApp, evPop, evPop0, splitRs, putOut, evUser, evIter, srcOf, evSrc, lstOf, rng1_ok, rng2_ok, enum1, zip2, xSeq, xNil, xSet, xOwn, xAsg, xExpr, xRet, xIf, xPar, binG, cmpG, gAdd, gSub, gMul, gDiv, gMod, gPow, gNeg, gIdx, gSl, biG, gIsi, isTy, gCmpI, tgName, tgSub, tgTup, tgsCons, tgsNil, Tgs.len, CEs.len, locAt, Sl.loc, setC, evYes, evNone, ixN, smallB_ok, posB_ok, wipeF, wipeOk, wipeAt, backAt, gEq_int, gNe_int, gEq_str, gNe_str, gEq_bool, gNe_bool, gIs, gIsNot, isNon, lenD, meT, tyD_str, tyD_list, ati0, ati1, ati2, ati3]⟩
    generalize plc x = px at ea lt
    generalize plc y = py at eb lt
    subst ea eb
    simp [F5, gOf, noX, runF, endF, outOf, moN, start0, evSs, evS, evE, evEs, evP, evIf, evI, evTg, evTgs, evVar, evTake, evFrz, evLit, litD, evD, evBin, evUn, Res.bind, fin, rvD, asB, evB, evNot, evIte, evBlV, evAll, rvDs, valDs, evMk, mkTup, mkLst, evCallB, evMeth, evPart, evNoPart, evSl, intOf, intD, evChain, cmpI, evApp, evPop, evPop0, splitRs, putOut, evUser, evIter, srcOf, evSrc, lstOf, rng1_ok, rng2_ok, enum1, zip2, xSeq, xNil, xSet, xOwn, xAsg, xExpr, xRet, xIf, xPar, binG, cmpG, gAdd, gSub, gMul, gDiv, gMod, gPow, gNeg, gIdx, gSl, biG, gIsi, isTy, gCmpI, tgName, tgSub, tgTup, tgsCons, tgsNil, Tgs.len, CEs.len, locAt, Sl.loc, setC, evYes, evNone, ixN, smallB_ok, posB_ok, wipeF, wipeOk, wipeAt, backAt, gEq_int, gNe_int, gEq_str, gNe_str, gEq_bool, gNe_bool, gIs, gIsNot, isNon, lenD, meT, tyD_str, tyD_list, ati0, ati1, ati2, ati3, lt]
  have c3 : evE c3_is_belt_value (F5 m k ss) = .ok (.val (.list (ss.map fun s => .bool (isH s))) true) (F5 m k ss) := by
    unfold c3_is_belt_value
    refine comp_ev (en1 := F5 m k ss) (en2 := F5 m k ss) (en3 := F5 m k ss) (ds := ss) (by simp [F5, gOf, noX, runF, endF, outOf, moN, start0, evSs, evS, evE, evEs, evP, evIf, evI, evTg, evTgs, evVar, evTake, evFrz, evLit, litD, evD, evBin, evUn, Res.bind, fin, rvD, asB, evB, evNot, evIte, evBlV, evAll, rvDs, valDs, evMk, mkTup, mkLst, evCallB, evMeth, evPart, evNoPart, evSl, intOf, intD, evChain, cmpI, evApp, evPop, evPop0, splitRs, putOut, evUser, evIter, srcOf, evSrc, lstOf, rng1_ok, rng2_ok, enum1, zip2, xSeq, xNil, xSet, xOwn, xAsg, xExpr, xRet, xIf, xPar, binG, cmpG, gAdd, gSub, gMul, gDiv, gMod, gPow, gNeg, gIdx, gSl, biG, gIsi, isTy, gCmpI, tgName, tgSub, tgTup, tgsCons, tgsNil, Tgs.len, CEs.len, locAt, Sl.loc, setC, evYes, evNone, ixN, smallB_ok, posB_ok, wipeF, wipeOk, wipeAt, backAt, gEq_int, gNe_int, gEq_str, gNe_str, gEq_bool, gNe_bool, gIs, gIsNot, isNon, lenD, meT, tyD_str, tyD_list, ati0, ati1, ati2, ati3]) (by simp [F5, gOf, noX, runF, endF, outOf, moN, start0, evSs, evS, evE, evEs, evP, evIf, evI, evTg, evTgs, evVar, evTake, evFrz, evLit, litD, evD, evBin, evUn, Res.bind, fin, rvD, asB, evB, evNot, evIte, evBlV, evAll, rvDs, valDs, evMk, mkTup, mkLst, evCallB, evMeth, evPart, evNoPart, evSl, intOf, intD, evChain, cmpI, evApp, evPop, evPop0, splitRs, putOut, evUser, evIter, srcOf, evSrc, lstOf, rng1_ok, rng2_ok, enum1, zip2, xSeq, xNil, xSet, xOwn, xAsg, xExpr, xRet, xIf, xPar, binG, cmpG, gAdd, gSub, gMul, gDiv, gMod, gPow, gNeg, gIdx, gSl, biG, gIsi, isTy, gCmpI, tgName, tgSub, tgTup, tgsCons, tgsNil, Tgs.len, CEs.len, locAt, Sl.loc, setC, evYes, evNone, ixN, smallB_ok, posB_ok, wipeF, wipeOk, wipeAt, backAt, gEq_int, gNe_int, gEq_str, gNe_str, gEq_bool, gNe_bool, gIs, gIsNot, isNon, lenD, meT, tyD_str, tyD_list, ati0, ati1, ati2, ati3]) hm (compGo_map ss fun d hd => ?_) (by simp [F5, gOf, noX, runF, endF, outOf, moN, start0, evSs, evS, evE, evEs, evP, evIf, evI, evTg, evTgs, evVar, evTake, evFrz, evLit, litD, evD, evBin, evUn, Res.bind, fin, rvD, asB, evB, evNot, evIte, evBlV, evAll, rvDs, valDs, evMk, mkTup, mkLst, evCallB, evMeth, evPart, evNoPart, evSl, intOf, intD, evChain, cmpI, evApp, evPop, evPop0, splitRs, putOut, evUser, evIter, srcOf, evSrc, lstOf, rng1_ok, rng2_ok, enum1, zip2, xSeq, xNil, xSet, xOwn, xAsg, xExpr, xRet, xIf, xPar, binG, cmpG, gAdd, gSub, gMul, gDiv, gMod, gPow, gNeg, gIdx, gSl, biG, gIsi, isTy, gCmpI, tgName, tgSub, tgTup, tgsCons, tgsNil, Tgs.len, CEs.len, locAt, Sl.loc, setC, evYes, evNone, ixN, smallB_ok, posB_ok, wipeF, wipeOk, wipeAt, backAt, gEq_int, gNe_int, gEq_str, gNe_str, gEq_bool, gNe_bool, gIs, gIsNot, isNon, lenD, meT, tyD_str, tyD_list, ati0, ati1, ati2, ati3])
    exact ⟨[.val (bl m k ss), .val (.int m), .val (.str k), .val (.tuple ss), .val d, .un, .un], [.val (bl m k ss), .val (.int m), .val (.str k), .val (.tuple ss), .val d, .un, .un], [.val (bl m k ss), .val (.int m), .val (.str k), .val (.tuple ss), .val d, .un, .un], false, by simp [F5, gOf, noX, runF, endF, outOf, moN, start0, evSs, evS, evE, evEs, evP, evIf, evI, evTg, evTgs, evVar, evTake, evFrz, evLit, litD, evD, evBin, evUn, Res.bind, fin, rvD, asB, evB, evNot, evIte, evBlV, evAll, rvDs, valDs, evMk, mkTup, mkLst, evCallB, evMeth, evPart, evNoPart, evSl, intOf, intD, evChain, cmpI, evApp, evPop, evPop0, splitRs, putOut, evUser, evIter, srcOf, evSrc, lstOf, rng1_ok, rng2_ok, enum1, zip2, xSeq, xNil, xSet, xOwn, xAsg, xExpr, xRet, xIf, xPar, binG, cmpG, gAdd, gSub, gMul, gDiv, gMod, gPow, gNeg, gIdx, gSl, biG, gIsi, isTy, gCmpI, tgName, tgSub, tgTup, tgsCons, tgsNil, Tgs.len, CEs.len, locAt, Sl.loc, setC, evYes, evNone, ixN, smallB_ok, posB_ok, wipeF, wipeOk, wipeAt, backAt, gEq_int, gNe_int, gEq_str, gNe_str, gEq_bool, gNe_bool, gIs, gIsNot, isNon, lenD, meT, tyD_str, tyD_list, ati0, ati1, ati2, ati3], by simp [F5, gOf, noX, runF, endF, outOf, moN, start0, evSs, evS, evE, evEs, evP, evIf, evI, evTg, evTgs, evVar, evTake, evFrz, evLit, litD, evD, evBin, evUn, Res.bind, fin, rvD, asB, evB, evNot, evIte, evBlV, evAll, rvDs, valDs, evMk, mkTup, mkLst, evCallB, evMeth, evPart, evNoPart, evSl, intOf, intD, evChain, cmpI, evApp, evPop, evPop0, splitRs, putOut, evUser, evIter, srcOf, evSrc, lstOf, rng1_ok, rng2_ok, enum1, zip2, xSeq, xNil, xSet, xOwn, xAsg, xExpr, xRet, xIf, xPar, binG, cmpG, gAdd, gSub, gMul, gDiv, gMod, gPow, gNeg, gIdx, gSl, biG, gIsi, isTy, gCmpI, tgName, tgSub, tgTup, tgsCons, tgsNil, Tgs.len, CEs.len, locAt, Sl.loc, setC, evYes, evNone, ixN, smallB_ok, posB_ok, wipeF, wipeOk, wipeAt, backAt, gEq_int, gNe_int, gEq_str, gNe_str, gEq_bool, gNe_bool, gIs, gIsNot, isNon, lenD, meT, tyD_str, tyD_list, ati0, ati1, ati2, ati3], by simp [F5, gOf, noX, runF, endF, outOf, moN, start0, evSs, evS, evE, evEs, evP, evIf, evI, evTg, evTgs, evVar, evTake, evFrz, evLit, litD, evD, evBin, evUn, Res.bind, fin, rvD, asB, evB, evNot, evIte, evBlV, evAll, rvDs, valDs, evMk, mkTup, mkLst, evCallB, evMeth, evPart, evNoPart, evSl, intOf, intD, evChain, cmpI, evApp, evPop, evPop0, splitRs, putOut, evUser, evIter, srcOf, evSrc, lstOf, rng1_ok, rng2_ok, enum1, zip2, xSeq, xNil, xSet, xOwn, xAsg, xExpr, xRet, xIf, xPar, binG, cmpG, gAdd, gSub, gMul, gDiv, gMod, gPow, gNeg, gIdx, gSl, biG, gIsi, isTy, gCmpI, tgName, tgSub, tgTup, tgsCons, tgsNil, Tgs.len, CEs.len, locAt, Sl.loc, setC, evYes, evNone, ixN, smallB_ok, posB_ok, wipeF, wipeOk, wipeAt, backAt, gEq_int, gNe_int, gEq_str, gNe_str, gEq_bool, gNe_bool, gIs, gIsNot, isNon, lenD, meT, tyD_str, tyD_list, ati0, ati1, ati2, ati3, (h.st d hd).ih], by simp [F5, gOf, noX, runF, endF, outOf, moN, start0, evSs, evS, evE, evEs, evP, evIf, evI, evTg, evTgs, evVar, evTake, evFrz, evLit, litD, evD, evBin, evUn, Res.bind, fin, rvD, asB, evB, evNot, evIte, evBlV, evAll, rvDs, valDs, evMk, mkTup, mkLst, evCallB, evMeth, evPart, evNoPart, evSl, intOf, intD, evChain, cmpI, evApp, evPop, evPop0, splitRs, putOut, evUser, evIter, srcOf, evSrc, lstOf, rng1_ok, rng2_ok, enum1, zip2, xSeq, xNil, xSet, xOwn, xAsg, xExpr, xRet, xIf, xPar, binG, cmpG, gAdd, gSub, gMul, gDiv, gMod, gPow, gNeg, gIdx, gSl, biG, gIsi, isTy, gCmpI, tgName, tgSub, tgTup, tgsCons, tgsNil, Tgs.len, CEs.len, locAt, Sl.loc, setC, evYes, evNone, ixN, smallB_ok, posB_ok, wipeF, wipeOk, wipeAt, backAt, gEq_int, gNe_int, gEq_str, gNe_str, gEq_bool, gNe_bool, gIs, gIsNot, isNon, lenD, meT, tyD_str, tyD_list, ati0, ati1, ati2, ati3]⟩
  have a1 : (2 : Int) ≤ m := by have := h.m2; omega
  have a2 : (m : Int) ≤ 6 := by have := h.m5; omega
  have a3 : (1 : Int) ≤ ss.length := by have := List.length_pos_iff.mpr h.ne; omega
  have a4 : (ss.length : Int) ≤ 4 := by have := h.n4; omega
  have hx := List.any_eq_true.mp h.hh
  simp only [F5] at c1 c2 c3
  simp [bl] at c1 c2 c3
  have b1 := bools_map (fun _ => true) ss
  have b2 := bools_map (fun _ => true) (zipD ss ss.tail)
  have b3 := bools_map isH ss
  have hw := t_within m 2 6
  have hn := in_K h.hk
  have hq := t_prod h
  simp only [bl] at hq
  simp [g_is_belt_value, b_is_belt_value, gOf, noX, runF, endF, outOf, moN, start0, evSs, evS, evE, evEs, evP, evIf, evI, evTg, evTgs, evVar, evTake, evFrz, evLit, litD, evD, evBin, evUn, Res.bind, fin, rvD, asB, evB, evNot, evIte, evBlV, evAll, rvDs, valDs, evMk, mkTup, mkLst, evCallB, evMeth, evPart, evNoPart, evSl, intOf, intD, evChain, cmpI, evApp, evPop, evPop0, splitRs, putOut, evUser, evIter, srcOf, evSrc, lstOf, rng1_ok, rng2_ok, enum1, zip2, xSeq, xNil, xSet, xOwn, xAsg, xExpr, xRet, xIf, xPar, binG, cmpG, gAdd, gSub, gMul, gDiv, gMod, gPow, gNeg, gIdx, gSl, biG, gIsi, isTy, gCmpI, tgName, tgSub, tgTup, tgsCons, tgsNil, Tgs.len, CEs.len, locAt, Sl.loc, setC, evYes, evNone, ixN, smallB_ok, posB_ok, wipeF, wipeOk, wipeAt, backAt, gEq_int, gNe_int, gEq_str, gNe_str, gEq_bool, gNe_bool, gIs, gIsNot, isNon, lenD, meT, tyD_str, tyD_list, ati0, ati1, ati2, ati3, bl, c1, c2, c3, b1, b2, b3, hw, hn, hq, a1, a2, a3, a4, hm, hp, d_MOST_STANDS, hx]
theorem t_need {m : Nat} {k : Str} {ss : List D} (h : Blt m k ss) (hp : prd m k ss ≤ 3000) : g_need_belt none [bl m k ss] = .ok .none false none := by
  have e := t_ibv h hp
  simp [g_need_belt, b_need_belt, gOf, noX, runF, endF, outOf, moN, start0, evSs, evS, evE, evEs, evP, evIf, evI, evTg, evTgs, evVar, evTake, evFrz, evLit, litD, evD, evBin, evUn, Res.bind, fin, rvD, asB, evB, evNot, evIte, evBlV, evAll, rvDs, valDs, evMk, mkTup, mkLst, evCallB, evMeth, evPart, evNoPart, evSl, intOf, intD, evChain, cmpI, evApp, evPop, evPop0, splitRs, putOut, evUser, evIter, srcOf, evSrc, lstOf, rng1_ok, rng2_ok, enum1, zip2, xSeq, xNil, xSet, xOwn, xAsg, xExpr, xRet, xIf, xPar, binG, cmpG, gAdd, gSub, gMul, gDiv, gMod, gPow, gNeg, gIdx, gSl, biG, gIsi, isTy, gCmpI, tgName, tgSub, tgTup, tgsCons, tgsNil, Tgs.len, CEs.len, locAt, Sl.loc, setC, evYes, evNone, ixN, smallB_ok, posB_ok, wipeF, wipeOk, wipeAt, backAt, gEq_int, gNe_int, gEq_str, gNe_str, gEq_bool, gNe_bool, gIs, gIsNot, isNon, lenD, meT, tyD_str, tyD_list, ati0, ati1, ati2, ati3, e]
def hdT (m : Nat) (k : Str) : Str := "belt " ++ strI m ++ " " ++ k
def okHd (m : Nat) (k : Str) : Bool := gives (g_head_of none [.str (hdT m k)]) (.tuple [.int m, .str k]) && decide (10 ∉ (hdT m k).cps.toList) && decide ((hdT m k).length < 30)
theorem all_hd : KS.all (fun k => [2, 3, 4, 5].all fun (m : Nat) => okHd m k) = true := by decide +kernel
theorem hd_f {m : Nat} {k : Str} (hk : k ∈ KS) (h2 : 2 ≤ m) (h5 : m ≤ 5) : g_head_of none [.str (hdT m k)] = .ok (.tuple [.int m, .str k]) false none ∧ 10 ∉ (hdT m k).cps.toList ∧ (hdT m k).length < 30 := by
  have h := all_hd
  rw [List.all_eq_true] at h
  have h1 := h k hk
  rw [List.all_eq_true] at h1
  have h2 := h1 m (by simp; omega)
  unfold okHd at h2
  simp only [Bool.and_eq_true, decide_eq_true_eq] at h2
  exact ⟨gives_eq h2.1.1, h2.1.2, h2.2⟩
theorem s_hd {m : Nat} {k : Str} {ss : List D} (y : Sl) (hk : k ∈ KS) (h2 : 2 ≤ m) (h5 : m ≤ 5) : evE s1_belt_text [.val (bl m k ss), y] = .ok (.val (.str (hdT m k)) false) [.val (bl m k ss), y] := by
  have hm : m = 2 ∨ m = 3 ∨ m = 4 ∨ m = 5 := by omega
  simp [KS] at hk
  rcases hk with rfl | rfl | rfl <;> rcases hm with rfl | rfl | rfl | rfl <;> rfl
def tx (m : Nat) (k : Str) (ss : List D) : Str := Txt.join "\n" (hdT m k :: ss.map txt)
theorem sum_len {l : List Str} (h : ∀ x ∈ l, x.length < 30) : (l.map (·.length)).sum ≤ 30 * l.length := by
  induction l with
  | nil => exact Nat.le_refl _
  | cons x r ih =>
    rw [List.map_cons, List.sum_cons, List.length_cons]
    have := h x (List.mem_cons_self ..)
    have := ih fun y hy => h y (List.mem_cons_of_mem _ hy)
    omega
theorem join_c {m : Nat} {k : Str} {ss : List D} (h : Blt m k ss) : ((hdT m k :: ss.map txt).map (·.length)).sum + (hdT m k :: ss.map txt).length * (Str.length "\n") ≤ most := by
  have e : (Str.length "\n") = 1 := by decide +kernel
  have := sum_len (l := hdT m k :: ss.map txt) fun x hx => by
    rcases List.mem_cons.mp hx with rfl | hx
    · exact (hd_f h.hk h.m2 h.m5).2.2
    · obtain ⟨s, hs, rfl⟩ := List.mem_map.mp hx
      exact (h.st s hs).ln
  have h4 := h.n4
  have hl : (hdT m k :: ss.map txt).length = ss.length + 1 := by rw [List.length_cons, List.length_map]
  rw [e, hl]
  rw [hl] at this
  show _ ≤ 16000000
  omega
theorem t_btext {m : Nat} {k : Str} {ss : List D} (h : Blt m k ss) (hp : prd m k ss ≤ 3000) : g_belt_text none [bl m k ss] = .ok (.str (tx m k ss)) false none := by
  have hm : ss.length ≤ most := Nat.le_trans h.n4 (by decide)
  have e := t_need h hp
  have es := s_hd (ss := ss) .un h.hk h.m2 h.m5
  have c1 : evE c1_belt_text [.val (bl m k ss), .un] = .ok (.val (.list (ss.map fun s => .str (txt s))) true) [.val (bl m k ss), .un] := by
    unfold c1_belt_text
    refine comp_ev (en1 := [.val (bl m k ss), .un]) (en2 := [.val (bl m k ss), .un]) (en3 := [.val (bl m k ss), .un]) (ds := ss) (by simp [gOf, noX, runF, endF, outOf, moN, start0, evSs, evS, evE, evEs, evP, evIf, evI, evTg, evTgs, evVar, evTake, evFrz, evLit, litD, evD, evBin, evUn, Res.bind, fin, rvD, asB, evB, evNot, evIte, evBlV, evAll, rvDs, valDs, evMk, mkTup, mkLst, evCallB, evMeth, evPart, evNoPart, evSl, intOf, intD, evChain, cmpI, evApp, evPop, evPop0, splitRs, putOut, evUser, evIter, srcOf, evSrc, lstOf, rng1_ok, rng2_ok, enum1, zip2, xSeq, xNil, xSet, xOwn, xAsg, xExpr, xRet, xIf, xPar, binG, cmpG, gAdd, gSub, gMul, gDiv, gMod, gPow, gNeg, gIdx, gSl, biG, gIsi, isTy, gCmpI, tgName, tgSub, tgTup, tgsCons, tgsNil, Tgs.len, CEs.len, locAt, Sl.loc, setC, evYes, evNone, ixN, smallB_ok, posB_ok, wipeF, wipeOk, wipeAt, backAt, gEq_int, gNe_int, gEq_str, gNe_str, gEq_bool, gNe_bool, gIs, gIsNot, isNon, lenD, meT, tyD_str, tyD_list, ati0, ati1, ati2, ati3, bl]) (by simp [gOf, noX, runF, endF, outOf, moN, start0, evSs, evS, evE, evEs, evP, evIf, evI, evTg, evTgs, evVar, evTake, evFrz, evLit, litD, evD, evBin, evUn, Res.bind, fin, rvD, asB, evB, evNot, evIte, evBlV, evAll, rvDs, valDs, evMk, mkTup, mkLst, evCallB, evMeth, evPart, evNoPart, evSl, intOf, intD, evChain, cmpI, evApp, evPop, evPop0, splitRs, putOut, evUser, evIter, srcOf, evSrc, lstOf, rng1_ok, rng2_ok, enum1, zip2, xSeq, xNil, xSet, xOwn, xAsg, xExpr, xRet, xIf, xPar, binG, cmpG, gAdd, gSub, gMul, gDiv, gMod, gPow, gNeg, gIdx, gSl, biG, gIsi, isTy, gCmpI, tgName, tgSub, tgTup, tgsCons, tgsNil, Tgs.len, CEs.len, locAt, Sl.loc, setC, evYes, evNone, ixN, smallB_ok, posB_ok, wipeF, wipeOk, wipeAt, backAt, gEq_int, gNe_int, gEq_str, gNe_str, gEq_bool, gNe_bool, gIs, gIsNot, isNon, lenD, meT, tyD_str, tyD_list, ati0, ati1, ati2, ati3]) hm (compGo_map ss fun d hd => ?_) (by simp [gOf, noX, runF, endF, outOf, moN, start0, evSs, evS, evE, evEs, evP, evIf, evI, evTg, evTgs, evVar, evTake, evFrz, evLit, litD, evD, evBin, evUn, Res.bind, fin, rvD, asB, evB, evNot, evIte, evBlV, evAll, rvDs, valDs, evMk, mkTup, mkLst, evCallB, evMeth, evPart, evNoPart, evSl, intOf, intD, evChain, cmpI, evApp, evPop, evPop0, splitRs, putOut, evUser, evIter, srcOf, evSrc, lstOf, rng1_ok, rng2_ok, enum1, zip2, xSeq, xNil, xSet, xOwn, xAsg, xExpr, xRet, xIf, xPar, binG, cmpG, gAdd, gSub, gMul, gDiv, gMod, gPow, gNeg, gIdx, gSl, biG, gIsi, isTy, gCmpI, tgName, tgSub, tgTup, tgsCons, tgsNil, Tgs.len, CEs.len, locAt, Sl.loc, setC, evYes, evNone, ixN, smallB_ok, posB_ok, wipeF, wipeOk, wipeAt, backAt, gEq_int, gNe_int, gEq_str, gNe_str, gEq_bool, gNe_bool, gIs, gIsNot, isNon, lenD, meT, tyD_str, tyD_list, ati0, ati1, ati2, ati3])
    exact ⟨[.val (bl m k ss), .val d], [.val (bl m k ss), .val d], [.val (bl m k ss), .val d], false, by simp [gOf, noX, runF, endF, outOf, moN, start0, evSs, evS, evE, evEs, evP, evIf, evI, evTg, evTgs, evVar, evTake, evFrz, evLit, litD, evD, evBin, evUn, Res.bind, fin, rvD, asB, evB, evNot, evIte, evBlV, evAll, rvDs, valDs, evMk, mkTup, mkLst, evCallB, evMeth, evPart, evNoPart, evSl, intOf, intD, evChain, cmpI, evApp, evPop, evPop0, splitRs, putOut, evUser, evIter, srcOf, evSrc, lstOf, rng1_ok, rng2_ok, enum1, zip2, xSeq, xNil, xSet, xOwn, xAsg, xExpr, xRet, xIf, xPar, binG, cmpG, gAdd, gSub, gMul, gDiv, gMod, gPow, gNeg, gIdx, gSl, biG, gIsi, isTy, gCmpI, tgName, tgSub, tgTup, tgsCons, tgsNil, Tgs.len, CEs.len, locAt, Sl.loc, setC, evYes, evNone, ixN, smallB_ok, posB_ok, wipeF, wipeOk, wipeAt, backAt, gEq_int, gNe_int, gEq_str, gNe_str, gEq_bool, gNe_bool, gIs, gIsNot, isNon, lenD, meT, tyD_str, tyD_list, ati0, ati1, ati2, ati3], by simp [gOf, noX, runF, endF, outOf, moN, start0, evSs, evS, evE, evEs, evP, evIf, evI, evTg, evTgs, evVar, evTake, evFrz, evLit, litD, evD, evBin, evUn, Res.bind, fin, rvD, asB, evB, evNot, evIte, evBlV, evAll, rvDs, valDs, evMk, mkTup, mkLst, evCallB, evMeth, evPart, evNoPart, evSl, intOf, intD, evChain, cmpI, evApp, evPop, evPop0, splitRs, putOut, evUser, evIter, srcOf, evSrc, lstOf, rng1_ok, rng2_ok, enum1, zip2, xSeq, xNil, xSet, xOwn, xAsg, xExpr, xRet, xIf, xPar, binG, cmpG, gAdd, gSub, gMul, gDiv, gMod, gPow, gNeg, gIdx, gSl, biG, gIsi, isTy, gCmpI, tgName, tgSub, tgTup, tgsCons, tgsNil, Tgs.len, CEs.len, locAt, Sl.loc, setC, evYes, evNone, ixN, smallB_ok, posB_ok, wipeF, wipeOk, wipeAt, backAt, gEq_int, gNe_int, gEq_str, gNe_str, gEq_bool, gNe_bool, gIs, gIsNot, isNon, lenD, meT, tyD_str, tyD_list, ati0, ati1, ati2, ati3], by simp [gOf, noX, runF, endF, outOf, moN, start0, evSs, evS, evE, evEs, evP, evIf, evI, evTg, evTgs, evVar, evTake, evFrz, evLit, litD, evD, evBin, evUn, Res.bind, fin, rvD, asB, evB, evNot, evIte, evBlV, evAll, rvDs, valDs, evMk, mkTup, mkLst, evCallB, evMeth, evPart, evNoPart, evSl, intOf, intD, evChain, cmpI, evApp, evPop, evPop0, splitRs, putOut, evUser, evIter, srcOf, evSrc, lstOf, rng1_ok, rng2_ok, enum1, zip2, xSeq, xNil, xSet, xOwn, xAsg, xExpr, xRet, xIf, xPar, binG, cmpG, gAdd, gSub, gMul, gDiv, gMod, gPow, gNeg, gIdx, gSl, biG, gIsi, isTy, gCmpI, tgName, tgSub, tgTup, tgsCons, tgsNil, Tgs.len, CEs.len, locAt, Sl.loc, setC, evYes, evNone, ixN, smallB_ok, posB_ok, wipeF, wipeOk, wipeAt, backAt, gEq_int, gNe_int, gEq_str, gNe_str, gEq_bool, gNe_bool, gIs, gIsNot, isNon, lenD, meT, tyD_str, tyD_list, ati0, ati1, ati2, ati3, (h.st d hd).sl], by simp [gOf, noX, runF, endF, outOf, moN, start0, evSs, evS, evE, evEs, evP, evIf, evI, evTg, evTgs, evVar, evTake, evFrz, evLit, litD, evD, evBin, evUn, Res.bind, fin, rvD, asB, evB, evNot, evIte, evBlV, evAll, rvDs, valDs, evMk, mkTup, mkLst, evCallB, evMeth, evPart, evNoPart, evSl, intOf, intD, evChain, cmpI, evApp, evPop, evPop0, splitRs, putOut, evUser, evIter, srcOf, evSrc, lstOf, rng1_ok, rng2_ok, enum1, zip2, xSeq, xNil, xSet, xOwn, xAsg, xExpr, xRet, xIf, xPar, binG, cmpG, gAdd, gSub, gMul, gDiv, gMod, gPow, gNeg, gIdx, gSl, biG, gIsi, isTy, gCmpI, tgName, tgSub, tgTup, tgsCons, tgsNil, Tgs.len, CEs.len, locAt, Sl.loc, setC, evYes, evNone, ixN, smallB_ok, posB_ok, wipeF, wipeOk, wipeAt, backAt, gEq_int, gNe_int, gEq_str, gNe_str, gEq_bool, gNe_bool, gIs, gIsNot, isNon, lenD, meT, tyD_str, tyD_list, ati0, ati1, ati2, ati3]⟩
  have hj : meG .join (.str "\n") [.list (.str (hdT m k) :: ss.map fun s => .str (txt s))] = some (.str (tx m k ss), false) :=
    join_g (ys := hdT m k :: ss.map txt) (by have := strs_map txt ss; unfold strsOf; rw [this]; rfl) (join_c h)
  have hl : 1 + ss.length ≤ most := Nat.le_trans (Nat.add_le_add_left h.n4 1) (by decide)
  simp [g_belt_text, b_belt_text, gOf, noX, runF, endF, outOf, moN, start0, evSs, evS, evE, evEs, evP, evIf, evI, evTg, evTgs, evVar, evTake, evFrz, evLit, litD, evD, evBin, evUn, Res.bind, fin, rvD, asB, evB, evNot, evIte, evBlV, evAll, rvDs, valDs, evMk, mkTup, mkLst, evCallB, evMeth, evPart, evNoPart, evSl, intOf, intD, evChain, cmpI, evApp, evPop, evPop0, splitRs, putOut, evUser, evIter, srcOf, evSrc, lstOf, rng1_ok, rng2_ok, enum1, zip2, xSeq, xNil, xSet, xOwn, xAsg, xExpr, xRet, xIf, xPar, binG, cmpG, gAdd, gSub, gMul, gDiv, gMod, gPow, gNeg, gIdx, gSl, biG, gIsi, isTy, gCmpI, tgName, tgSub, tgTup, tgsCons, tgsNil, Tgs.len, CEs.len, locAt, Sl.loc, setC, evYes, evNone, ixN, smallB_ok, posB_ok, wipeF, wipeOk, wipeAt, backAt, gEq_int, gNe_int, gEq_str, gNe_str, gEq_bool, gNe_bool, gIs, gIsNot, isNon, lenD, meT, tyD_str, tyD_list, ati0, ati1, ati2, ati3, e, es, c1, hl, hj]
/-- the law's own text -/
def LT (m : Nat) (k : Str) (ss : List D) (ls : List D) (y : Option D) (z : Option (List D)) : Fr := [.val (bl m k ss), .own (.list ls), ov y, match z with | none => .un | some l => .own (.list l)]
theorem part_c {a : Str} {l : List Str} (ha : a.length ≤ 1) (hl : (Txt.join a l).length < 30) (h4 : l.length ≤ 4) : (l.map (·.length)).sum + l.length * a.length ≤ most := by
  have h := PyProof.Rows.len_join_ge_sum a l
  have : l.length * a.length ≤ 4 := Nat.le_trans (Nat.mul_le_mul h4 ha) (by decide)
  show _ ≤ 16000000
  omega
theorem hat_ne : ((Str.ofString "hatch") == (Str.ofString "picker")) = false := by decide +kernel
theorem sp1 : (Str.ofString " ").length ≤ 1 := by decide +kernel
theorem lt_step {m : Nat} {k : Str} {ss ls : List D} {y : Option D} {z : Option (List D)} {s : D} (h : StF k m s) (hm : m ≤ 5) (hn : ls.length < most) :
    ∃ en1, evTg (.name 2) s (LT m k ss ls y z) = .ok () en1 ∧ ∃ z', evSs q1__law_text en1 = .nx (LT m k ss (ls ++ [.str (txt s)]) (some s) z') := by
  have hln := h.ln
  rcases h.sh with ⟨p, r, rfl, hr, p0, p1⟩ | ⟨p, w, b, rfl, hw, b0, b2, p0, p1⟩
  · refine ⟨LT m k ss ls (some (hat p r)) z, by cases y <;> simp [LT, gOf, noX, runF, endF, outOf, moN, start0, evSs, evS, evE, evEs, evP, evIf, evI, evTg, evTgs, evVar, evTake, evFrz, evLit, litD, evD, evBin, evUn, Res.bind, fin, rvD, asB, evB, evNot, evIte, evBlV, evAll, rvDs, valDs, evMk, mkTup, mkLst, evCallB, evMeth, evPart, evNoPart, evSl, intOf, intD, evChain, cmpI, evApp, evPop, evPop0, splitRs, putOut, evUser, evIter, srcOf, evSrc, lstOf, rng1_ok, rng2_ok, enum1, zip2, xSeq, xNil, xSet, xOwn, xAsg, xExpr, xRet, xIf, xPar, binG, cmpG, gAdd, gSub, gMul, gDiv, gMod, gPow, gNeg, gIdx, gSl, biG, gIsi, isTy, gCmpI, tgName, tgSub, tgTup, tgsCons, tgsNil, Tgs.len, CEs.len, locAt, Sl.loc, setC, evYes, evNone, ixN, smallB_ok, posB_ok, wipeF, wipeOk, wipeAt, backAt, gEq_int, gNe_int, gEq_str, gNe_str, gEq_bool, gNe_bool, gIs, gIsNot, isNon, lenD, meT, tyD_str, tyD_list, ati0, ati1, ati2, ati3, ov], some [.str "hatch", .str (strI p), .str r], ?_⟩
    have np : p.natAbs < 18446744073709551616 := by omega
    have hne := hat_ne
    have hj : meG .join (.str " ") [.list [.str "hatch", .str (strI p), .str r]] = some (.str (txt (hat p r)), false) := join_g (ys := ["hatch", strI p, r]) rfl (part_c sp1 hln (by simp))
    cases z <;> simp [LT, q1__law_text, gOf, noX, runF, endF, outOf, moN, start0, evSs, evS, evE, evEs, evP, evIf, evI, evTg, evTgs, evVar, evTake, evFrz, evLit, litD, evD, evBin, evUn, Res.bind, fin, rvD, asB, evB, evNot, evIte, evBlV, evAll, rvDs, valDs, evMk, mkTup, mkLst, evCallB, evMeth, evPart, evNoPart, evSl, intOf, intD, evChain, cmpI, evApp, evPop, evPop0, splitRs, putOut, evUser, evIter, srcOf, evSrc, lstOf, rng1_ok, rng2_ok, enum1, zip2, xSeq, xNil, xSet, xOwn, xAsg, xExpr, xRet, xIf, xPar, binG, cmpG, gAdd, gSub, gMul, gDiv, gMod, gPow, gNeg, gIdx, gSl, biG, gIsi, isTy, gCmpI, tgName, tgSub, tgTup, tgsCons, tgsNil, Tgs.len, CEs.len, locAt, Sl.loc, setC, evYes, evNone, ixN, smallB_ok, posB_ok, wipeF, wipeOk, wipeAt, backAt, gEq_int, gNe_int, gEq_str, gNe_str, gEq_bool, gNe_bool, gIs, gIsNot, isNon, lenD, meT, tyD_str, tyD_list, ati0, ati1, ati2, ati3, ov, hat, np, hne, hj, hn]
  · refine ⟨LT m k ss ls (some (pik p w b)) z, by cases y <;> simp [LT, gOf, noX, runF, endF, outOf, moN, start0, evSs, evS, evE, evEs, evP, evIf, evI, evTg, evTgs, evVar, evTake, evFrz, evLit, litD, evD, evBin, evUn, Res.bind, fin, rvD, asB, evB, evNot, evIte, evBlV, evAll, rvDs, valDs, evMk, mkTup, mkLst, evCallB, evMeth, evPart, evNoPart, evSl, intOf, intD, evChain, cmpI, evApp, evPop, evPop0, splitRs, putOut, evUser, evIter, srcOf, evSrc, lstOf, rng1_ok, rng2_ok, enum1, zip2, xSeq, xNil, xSet, xOwn, xAsg, xExpr, xRet, xIf, xPar, binG, cmpG, gAdd, gSub, gMul, gDiv, gMod, gPow, gNeg, gIdx, gSl, biG, gIsi, isTy, gCmpI, tgName, tgSub, tgTup, tgsCons, tgsNil, Tgs.len, CEs.len, locAt, Sl.loc, setC, evYes, evNone, ixN, smallB_ok, posB_ok, wipeF, wipeOk, wipeAt, backAt, gEq_int, gNe_int, gEq_str, gNe_str, gEq_bool, gNe_bool, gIs, gIsNot, isNon, lenD, meT, tyD_str, tyD_list, ati0, ati1, ati2, ati3, ov], some [.str "picker", .str (strI p), .str w, .str (strI b)], ?_⟩
    have np : p.natAbs < 18446744073709551616 := by omega
    have nb : b.natAbs < 18446744073709551616 := by omega
    have h3 : 3 < most := by decide
    have hj : meG .join (.str " ") [.list [.str "picker", .str (strI p), .str w, .str (strI b)]] = some (.str (txt (pik p w b)), false) := join_g (ys := ["picker", strI p, w, strI b]) rfl (part_c sp1 hln (by simp))
    cases z <;> simp [LT, q1__law_text, gOf, noX, runF, endF, outOf, moN, start0, evSs, evS, evE, evEs, evP, evIf, evI, evTg, evTgs, evVar, evTake, evFrz, evLit, litD, evD, evBin, evUn, Res.bind, fin, rvD, asB, evB, evNot, evIte, evBlV, evAll, rvDs, valDs, evMk, mkTup, mkLst, evCallB, evMeth, evPart, evNoPart, evSl, intOf, intD, evChain, cmpI, evApp, evPop, evPop0, splitRs, putOut, evUser, evIter, srcOf, evSrc, lstOf, rng1_ok, rng2_ok, enum1, zip2, xSeq, xNil, xSet, xOwn, xAsg, xExpr, xRet, xIf, xPar, binG, cmpG, gAdd, gSub, gMul, gDiv, gMod, gPow, gNeg, gIdx, gSl, biG, gIsi, isTy, gCmpI, tgName, tgSub, tgTup, tgsCons, tgsNil, Tgs.len, CEs.len, locAt, Sl.loc, setC, evYes, evNone, ixN, smallB_ok, posB_ok, wipeF, wipeOk, wipeAt, backAt, gEq_int, gNe_int, gEq_str, gNe_str, gEq_bool, gNe_bool, gIs, gIsNot, isNon, lenD, meT, tyD_str, tyD_list, ati0, ati1, ati2, ati3, ov, pik, np, nb, h3, hj, hn]
theorem lt_loop {m : Nat} {k : Str} {ss : List D} (hm : m ≤ 5) : ∀ (ds ls : List D) (y : Option D) (z : Option (List D)), (∀ s ∈ ds, StF k m s) → ls.length + ds.length < 1000 →
    ∃ y' z', forGo (evTg (.name 2)) (evSs q1__law_text) ds (LT m k ss ls y z) = .nx (LT m k ss (ls ++ ds.map fun s => .str (txt s)) y' z')
  | [], ls, y, z, _, _ => ⟨y, z, by rw [List.map_nil, List.append_nil]; rfl⟩
  | s :: ds, ls, y, z, h, hl => by
    rw [List.length_cons] at hl
    obtain ⟨en1, e1, z1, e2⟩ := lt_step (ss := ss) (y := y) (z := z) (h s (List.mem_cons_self ..)) hm (show ls.length < most from Nat.lt_trans (show ls.length < 1000 by omega) (by decide))
    obtain ⟨y', z', e3⟩ := lt_loop (ss := ss) hm ds (ls ++ [.str (txt s)]) (some s) z1 (fun d hd => h d (List.mem_cons_of_mem _ hd)) (by rw [List.length_append, List.length_singleton]; omega)
    refine ⟨y', z', ?_⟩
    unfold forGo
    rw [e1]; simp only
    rw [e2]; simp only
    rw [e3, List.map_cons, List.append_assoc]
    rfl
theorem hd_l {m : Nat} {k : Str} (hk : k ∈ KS) (h2 : 2 ≤ m) (h5 : m ≤ 5) : (Str.ofString "belt ").length + (strI m).length ≤ most ∧ (Str.ofString "belt " ++ strI m).length + (Str.ofString " ").length ≤ most ∧ (Str.ofString "belt " ++ strI m ++ Str.ofString " ").length + k.length ≤ most := by
  have hm : m = 2 ∨ m = 3 ∨ m = 4 ∨ m = 5 := by omega
  simp [KS] at hk
  rcases hk with rfl | rfl | rfl <;> rcases hm with rfl | rfl | rfl | rfl <;> decide +kernel
theorem t_ltext {m : Nat} {k : Str} {ss : List D} (h : Blt m k ss) : g__law_text none [bl m k ss] = .ok (.str (tx m k ss)) false none := by
  obtain ⟨y', z', e⟩ := lt_loop (ss := ss) (k := k) h.m5 ss [.str (hdT m k)] none none h.st (by have := h.n4; simp; omega)
  have hl : evS l1__law_text (LT m k ss [.str (hdT m k)] none none) = .nx (LT m k ss (.str (hdT m k) :: ss.map fun s => .str (txt s)) y' z') := by
    unfold l1__law_text
    rw [for_ev (ds := ss) (en1 := LT m k ss [.str (hdT m k)] none none) (by simp [LT, gOf, noX, runF, endF, outOf, moN, start0, evSs, evS, evE, evEs, evP, evIf, evI, evTg, evTgs, evVar, evTake, evFrz, evLit, litD, evD, evBin, evUn, Res.bind, fin, rvD, asB, evB, evNot, evIte, evBlV, evAll, rvDs, valDs, evMk, mkTup, mkLst, evCallB, evMeth, evPart, evNoPart, evSl, intOf, intD, evChain, cmpI, evApp, evPop, evPop0, splitRs, putOut, evUser, evIter, srcOf, evSrc, lstOf, rng1_ok, rng2_ok, enum1, zip2, xSeq, xNil, xSet, xOwn, xAsg, xExpr, xRet, xIf, xPar, binG, cmpG, gAdd, gSub, gMul, gDiv, gMod, gPow, gNeg, gIdx, gSl, biG, gIsi, isTy, gCmpI, tgName, tgSub, tgTup, tgsCons, tgsNil, Tgs.len, CEs.len, locAt, Sl.loc, setC, evYes, evNone, ixN, smallB_ok, posB_ok, wipeF, wipeOk, wipeAt, backAt, gEq_int, gNe_int, gEq_str, gNe_str, gEq_bool, gNe_bool, gIs, gIsNot, isNon, lenD, meT, tyD_str, tyD_list, ati0, ati1, ati2, ati3, bl]), e]
    rfl
  have hj : meG .join (.str "\n") [.list (.str (hdT m k) :: ss.map fun s => .str (txt s))] = some (.str (tx m k ss), false) :=
    join_g (ys := hdT m k :: ss.map txt) (by have := strs_map txt ss; unfold strsOf; rw [this]; rfl) (join_c h)
  obtain ⟨q1, q2, q3⟩ := hd_l h.hk h.m2 h.m5
  have nm : m < 18446744073709551616 := by have := h.m5; omega
  simp only [LT, ov, bl, hdT] at hl hj
  cases z' <;> simp [g__law_text, b__law_text, gOf, noX, runF, endF, outOf, moN, start0, evSs, evS, evE, evEs, evP, evIf, evI, evTg, evTgs, evVar, evTake, evFrz, evLit, litD, evD, evBin, evUn, Res.bind, fin, rvD, asB, evB, evNot, evIte, evBlV, evAll, rvDs, valDs, evMk, mkTup, mkLst, evCallB, evMeth, evPart, evNoPart, evSl, intOf, intD, evChain, cmpI, evApp, evPop, evPop0, splitRs, putOut, evUser, evIter, srcOf, evSrc, lstOf, rng1_ok, rng2_ok, enum1, zip2, xSeq, xNil, xSet, xOwn, xAsg, xExpr, xRet, xIf, xPar, binG, cmpG, gAdd, gSub, gMul, gDiv, gMod, gPow, gNeg, gIdx, gSl, biG, gIsi, isTy, gCmpI, tgName, tgSub, tgTup, tgsCons, tgsNil, Tgs.len, CEs.len, locAt, Sl.loc, setC, evYes, evNone, ixN, smallB_ok, posB_ok, wipeF, wipeOk, wipeAt, backAt, gEq_int, gNe_int, gEq_str, gNe_str, gEq_bool, gNe_bool, gIs, gIsNot, isNon, lenD, meT, tyD_str, tyD_list, ati0, ati1, ati2, ati3, bl, nm, q1, q2, q3, hl, hj]
end Mi
set_option Elab.async false
set_option linter.all false
set_option maxRecDepth 100000
set_option autoImplicit false
namespace Mi
open PySem PySem.Spec L2
theorem so_int {i : Int} : g__law_sort none [.int i] = .ok (.int 2) false none := by simp [g__law_sort, b__law_sort, gOf, noX, runF, endF, outOf, moN, start0, evSs, evS, evE, evEs, evP, evIf, evI, evTg, evTgs, evVar, evTake, evFrz, evLit, litD, evD, evBin, evUn, Res.bind, fin, rvD, asB, evB, evNot, evIte, evBlV, evAll, rvDs, valDs, evMk, mkTup, mkLst, evCallB, evMeth, evPart, evNoPart, evSl, intOf, intD, evChain, cmpI, evApp, evPop, evPop0, splitRs, putOut, evUser, evIter, srcOf, evSrc, lstOf, rng1_ok, rng2_ok, enum1, zip2, xSeq, xNil, xSet, xOwn, xAsg, xExpr, xRet, xIf, xPar, binG, cmpG, gAdd, gSub, gMul, gDiv, gMod, gPow, gNeg, gIdx, gSl, biG, gIsi, isTy, gCmpI, tgName, tgSub, tgTup, tgsCons, tgsNil, Tgs.len, CEs.len, locAt, Sl.loc, setC, evYes, evNone, ixN, smallB_ok, posB_ok, wipeF, wipeOk, wipeAt, backAt, gEq_int, gNe_int, gEq_str, gNe_str, gEq_bool, gNe_bool, gIs, gIsNot, isNon, lenD, meT, tyD_str, tyD_list, ati0, ati1, ati2, ati3]
theorem so_str {i : Str} : g__law_sort none [.str i] = .ok (.int 3) false none := by simp [g__law_sort, b__law_sort, gOf, noX, runF, endF, outOf, moN, start0, evSs, evS, evE, evEs, evP, evIf, evI, evTg, evTgs, evVar, evTake, evFrz, evLit, litD, evD, evBin, evUn, Res.bind, fin, rvD, asB, evB, evNot, evIte, evBlV, evAll, rvDs, valDs, evMk, mkTup, mkLst, evCallB, evMeth, evPart, evNoPart, evSl, intOf, intD, evChain, cmpI, evApp, evPop, evPop0, splitRs, putOut, evUser, evIter, srcOf, evSrc, lstOf, rng1_ok, rng2_ok, enum1, zip2, xSeq, xNil, xSet, xOwn, xAsg, xExpr, xRet, xIf, xPar, binG, cmpG, gAdd, gSub, gMul, gDiv, gMod, gPow, gNeg, gIdx, gSl, biG, gIsi, isTy, gCmpI, tgName, tgSub, tgTup, tgsCons, tgsNil, Tgs.len, CEs.len, locAt, Sl.loc, setC, evYes, evNone, ixN, smallB_ok, posB_ok, wipeF, wipeOk, wipeAt, backAt, gEq_int, gNe_int, gEq_str, gNe_str, gEq_bool, gNe_bool, gIs, gIsNot, isNon, lenD, meT, tyD_str, tyD_list, ati0, ati1, ati2, ati3]
theorem so_tup {i : List D} : g__law_sort none [.tuple i] = .ok (.int 5) false none := by simp [g__law_sort, b__law_sort, gOf, noX, runF, endF, outOf, moN, start0, evSs, evS, evE, evEs, evP, evIf, evI, evTg, evTgs, evVar, evTake, evFrz, evLit, litD, evD, evBin, evUn, Res.bind, fin, rvD, asB, evB, evNot, evIte, evBlV, evAll, rvDs, valDs, evMk, mkTup, mkLst, evCallB, evMeth, evPart, evNoPart, evSl, intOf, intD, evChain, cmpI, evApp, evPop, evPop0, splitRs, putOut, evUser, evIter, srcOf, evSrc, lstOf, rng1_ok, rng2_ok, enum1, zip2, xSeq, xNil, xSet, xOwn, xAsg, xExpr, xRet, xIf, xPar, binG, cmpG, gAdd, gSub, gMul, gDiv, gMod, gPow, gNeg, gIdx, gSl, biG, gIsi, isTy, gCmpI, tgName, tgSub, tgTup, tgsCons, tgsNil, Tgs.len, CEs.len, locAt, Sl.loc, setC, evYes, evNone, ixN, smallB_ok, posB_ok, wipeF, wipeOk, wipeAt, backAt, gEq_int, gNe_int, gEq_str, gNe_str, gEq_bool, gNe_bool, gIs, gIsNot, isNon, lenD, meT, tyD_str, tyD_list, ati0, ati1, ati2, ati3]
inductive Tme : Nat → D → Prop
  | int {n : Nat} (i : Int) : Tme n (.int i)
  | str {n : Nat} (i : Str) : Tme n (.str i)
  | tup {n : Nat} {ds : List D} (h : ∀ d ∈ ds, Tme n d) (hl : ds.length ≤ most) : Tme (n + 1) (.tuple ds)
theorem t_same : ∀ {n : Nat} {d : D}, Tme n d → g__law_same (n + 1) none [d, d] = .ok (.bool true) false none
  | n, _, .int i => by simp [g__law_same, b__law_same, gOf, noX, runF, endF, outOf, moN, start0, evSs, evS, evE, evEs, evP, evIf, evI, evTg, evTgs, evVar, evTake, evFrz, evLit, litD, evD, evBin, evUn, Res.bind, fin, rvD, asB, evB, evNot, evIte, evBlV, evAll, rvDs, valDs, evMk, mkTup, mkLst, evCallB, evMeth, evPart, evNoPart, evSl, intOf, intD, evChain, cmpI, evApp, evPop, evPop0, splitRs, putOut, evUser, evIter, srcOf, evSrc, lstOf, rng1_ok, rng2_ok, enum1, zip2, xSeq, xNil, xSet, xOwn, xAsg, xExpr, xRet, xIf, xPar, binG, cmpG, gAdd, gSub, gMul, gDiv, gMod, gPow, gNeg, gIdx, gSl, biG, gIsi, isTy, gCmpI, tgName, tgSub, tgTup, tgsCons, tgsNil, Tgs.len, CEs.len, locAt, Sl.loc, setC, evYes, evNone, ixN, smallB_ok, posB_ok, wipeF, wipeOk, wipeAt, backAt, gEq_int, gNe_int, gEq_str, gNe_str, gEq_bool, gNe_bool, gIs, gIsNot, isNon, lenD, meT, tyD_str, tyD_list, ati0, ati1, ati2, ati3, so_int]
  | n, _, .str i => by simp [g__law_same, b__law_same, gOf, noX, runF, endF, outOf, moN, start0, evSs, evS, evE, evEs, evP, evIf, evI, evTg, evTgs, evVar, evTake, evFrz, evLit, litD, evD, evBin, evUn, Res.bind, fin, rvD, asB, evB, evNot, evIte, evBlV, evAll, rvDs, valDs, evMk, mkTup, mkLst, evCallB, evMeth, evPart, evNoPart, evSl, intOf, intD, evChain, cmpI, evApp, evPop, evPop0, splitRs, putOut, evUser, evIter, srcOf, evSrc, lstOf, rng1_ok, rng2_ok, enum1, zip2, xSeq, xNil, xSet, xOwn, xAsg, xExpr, xRet, xIf, xPar, binG, cmpG, gAdd, gSub, gMul, gDiv, gMod, gPow, gNeg, gIdx, gSl, biG, gIsi, isTy, gCmpI, tgName, tgSub, tgTup, tgsCons, tgsNil, Tgs.len, CEs.len, locAt, Sl.loc, setC, evYes, evNone, ixN, smallB_ok, posB_ok, wipeF, wipeOk, wipeAt, backAt, gEq_int, gNe_int, gEq_str, gNe_str, gEq_bool, gNe_bool, gIs, gIsNot, isNon, lenD, meT, tyD_str, tyD_list, ati0, ati1, ati2, ati3, so_str]
  | n + 1, _, .tup (ds := ds) h hl => by
    have c1 : evE (c1__law_same (g__law_same (n + 1))) [.val (.tuple ds), .val (.tuple ds), .un, .un] = .ok (.val (.list []) true) [.val (.tuple ds), .val (.tuple ds), .un, .un] := by
      unfold c1__law_same
      have hf := compGo_filter (own := [2, 3]) (ftg := evTg (.tup (.cons (.name 2) (.cons (.name 3) .nil)))) (ft := evIf (.cons (.not (.call "_law_same" 2 (g__law_same (n + 1)) (.cons (.var 3) (.cons (.idx (.var 1) (.var 2)) .nil)))) .nil)) (fe := evE (.var 2))
        (en := [.val (.tuple ds), .val (.tuple ds), .un, .un]) (f := fun _ => none) (enumFrom 0 ds) fun d hd => by
          obtain ⟨i, x, e1, rfl⟩ := enum_mem hd
          have hx := t_same (h x (List.mem_of_getElem? e1))
          have ha : atI ds (i : Int) = some x := ati_nat e1
          exact ⟨[.val (.tuple ds), .val (.tuple ds), .val (.int i), .val x], [.val (.tuple ds), .val (.tuple ds), .val (.int i), .val x], by simp [gOf, noX, runF, endF, outOf, moN, start0, evSs, evS, evE, evEs, evP, evIf, evI, evTg, evTgs, evVar, evTake, evFrz, evLit, litD, evD, evBin, evUn, Res.bind, fin, rvD, asB, evB, evNot, evIte, evBlV, evAll, rvDs, valDs, evMk, mkTup, mkLst, evCallB, evMeth, evPart, evNoPart, evSl, intOf, intD, evChain, cmpI, evApp, evPop, evPop0, splitRs, putOut, evUser, evIter, srcOf, evSrc, lstOf, rng1_ok, rng2_ok, enum1, zip2, xSeq, xNil, xSet, xOwn, xAsg, xExpr, xRet, xIf, xPar, binG, cmpG, gAdd, gSub, gMul, gDiv, gMod, gPow, gNeg, gIdx, gSl, biG, gIsi, isTy, gCmpI, tgName, tgSub, tgTup, tgsCons, tgsNil, Tgs.len, CEs.len, locAt, Sl.loc, setC, evYes, evNone, ixN, smallB_ok, posB_ok, wipeF, wipeOk, wipeAt, backAt, gEq_int, gNe_int, gEq_str, gNe_str, gEq_bool, gNe_bool, gIs, gIsNot, isNon, lenD, meT, tyD_str, tyD_list, ati0, ati1, ati2, ati3], .inl ⟨rfl, by simp [gOf, noX, runF, endF, outOf, moN, start0, evSs, evS, evE, evEs, evP, evIf, evI, evTg, evTgs, evVar, evTake, evFrz, evLit, litD, evD, evBin, evUn, Res.bind, fin, rvD, asB, evB, evNot, evIte, evBlV, evAll, rvDs, valDs, evMk, mkTup, mkLst, evCallB, evMeth, evPart, evNoPart, evSl, intOf, intD, evChain, cmpI, evApp, evPop, evPop0, splitRs, putOut, evUser, evIter, srcOf, evSrc, lstOf, rng1_ok, rng2_ok, enum1, zip2, xSeq, xNil, xSet, xOwn, xAsg, xExpr, xRet, xIf, xPar, binG, cmpG, gAdd, gSub, gMul, gDiv, gMod, gPow, gNeg, gIdx, gSl, biG, gIsi, isTy, gCmpI, tgName, tgSub, tgTup, tgsCons, tgsNil, Tgs.len, CEs.len, locAt, Sl.loc, setC, evYes, evNone, ixN, smallB_ok, posB_ok, wipeF, wipeOk, wipeAt, backAt, gEq_int, gNe_int, gEq_str, gNe_str, gEq_bool, gNe_bool, gIs, gIsNot, isNon, lenD, meT, tyD_str, tyD_list, ati0, ati1, ati2, ati3, ha, hx], by simp [gOf, noX, runF, endF, outOf, moN, start0, evSs, evS, evE, evEs, evP, evIf, evI, evTg, evTgs, evVar, evTake, evFrz, evLit, litD, evD, evBin, evUn, Res.bind, fin, rvD, asB, evB, evNot, evIte, evBlV, evAll, rvDs, valDs, evMk, mkTup, mkLst, evCallB, evMeth, evPart, evNoPart, evSl, intOf, intD, evChain, cmpI, evApp, evPop, evPop0, splitRs, putOut, evUser, evIter, srcOf, evSrc, lstOf, rng1_ok, rng2_ok, enum1, zip2, xSeq, xNil, xSet, xOwn, xAsg, xExpr, xRet, xIf, xPar, binG, cmpG, gAdd, gSub, gMul, gDiv, gMod, gPow, gNeg, gIdx, gSl, biG, gIsi, isTy, gCmpI, tgName, tgSub, tgTup, tgsCons, tgsNil, Tgs.len, CEs.len, locAt, Sl.loc, setC, evYes, evNone, ixN, smallB_ok, posB_ok, wipeF, wipeOk, wipeAt, backAt, gEq_int, gNe_int, gEq_str, gNe_str, gEq_bool, gNe_bool, gIs, gIsNot, isNon, lenD, meT, tyD_str, tyD_list, ati0, ati1, ati2, ati3]⟩⟩
      rw [List.filterMap_eq_nil_iff.mpr (fun _ _ => rfl)] at hf
      exact comp_ev (en1 := [.val (.tuple ds), .val (.tuple ds), .un, .un]) (en2 := [.val (.tuple ds), .val (.tuple ds), .un, .un]) (en3 := [.val (.tuple ds), .val (.tuple ds), .un, .un]) (ds := enumFrom 0 ds) (by simp [gOf, noX, runF, endF, outOf, moN, start0, evSs, evS, evE, evEs, evP, evIf, evI, evTg, evTgs, evVar, evTake, evFrz, evLit, litD, evD, evBin, evUn, Res.bind, fin, rvD, asB, evB, evNot, evIte, evBlV, evAll, rvDs, valDs, evMk, mkTup, mkLst, evCallB, evMeth, evPart, evNoPart, evSl, intOf, intD, evChain, cmpI, evApp, evPop, evPop0, splitRs, putOut, evUser, evIter, srcOf, evSrc, lstOf, rng1_ok, rng2_ok, enum1, zip2, xSeq, xNil, xSet, xOwn, xAsg, xExpr, xRet, xIf, xPar, binG, cmpG, gAdd, gSub, gMul, gDiv, gMod, gPow, gNeg, gIdx, gSl, biG, gIsi, isTy, gCmpI, tgName, tgSub, tgTup, tgsCons, tgsNil, Tgs.len, CEs.len, locAt, Sl.loc, setC, evYes, evNone, ixN, smallB_ok, posB_ok, wipeF, wipeOk, wipeAt, backAt, gEq_int, gNe_int, gEq_str, gNe_str, gEq_bool, gNe_bool, gIs, gIsNot, isNon, lenD, meT, tyD_str, tyD_list, ati0, ati1, ati2, ati3]) (by simp [gOf, noX, runF, endF, outOf, moN, start0, evSs, evS, evE, evEs, evP, evIf, evI, evTg, evTgs, evVar, evTake, evFrz, evLit, litD, evD, evBin, evUn, Res.bind, fin, rvD, asB, evB, evNot, evIte, evBlV, evAll, rvDs, valDs, evMk, mkTup, mkLst, evCallB, evMeth, evPart, evNoPart, evSl, intOf, intD, evChain, cmpI, evApp, evPop, evPop0, splitRs, putOut, evUser, evIter, srcOf, evSrc, lstOf, rng1_ok, rng2_ok, enum1, zip2, xSeq, xNil, xSet, xOwn, xAsg, xExpr, xRet, xIf, xPar, binG, cmpG, gAdd, gSub, gMul, gDiv, gMod, gPow, gNeg, gIdx, gSl, biG, gIsi, isTy, gCmpI, tgName, tgSub, tgTup, tgsCons, tgsNil, Tgs.len, CEs.len, locAt, Sl.loc, setC, evYes, evNone, ixN, smallB_ok, posB_ok, wipeF, wipeOk, wipeAt, backAt, gEq_int, gNe_int, gEq_str, gNe_str, gEq_bool, gNe_bool, gIs, gIsNot, isNon, lenD, meT, tyD_str, tyD_list, ati0, ati1, ati2, ati3]) (by rw [enum_len]; exact hl) hf (by simp [gOf, noX, runF, endF, outOf, moN, start0, evSs, evS, evE, evEs, evP, evIf, evI, evTg, evTgs, evVar, evTake, evFrz, evLit, litD, evD, evBin, evUn, Res.bind, fin, rvD, asB, evB, evNot, evIte, evBlV, evAll, rvDs, valDs, evMk, mkTup, mkLst, evCallB, evMeth, evPart, evNoPart, evSl, intOf, intD, evChain, cmpI, evApp, evPop, evPop0, splitRs, putOut, evUser, evIter, srcOf, evSrc, lstOf, rng1_ok, rng2_ok, enum1, zip2, xSeq, xNil, xSet, xOwn, xAsg, xExpr, xRet, xIf, xPar, binG, cmpG, gAdd, gSub, gMul, gDiv, gMod, gPow, gNeg, gIdx, gSl, biG, gIsi, isTy, gCmpI, tgName, tgSub, tgTup, tgsCons, tgsNil, Tgs.len, CEs.len, locAt, Sl.loc, setC, evYes, evNone, ixN, smallB_ok, posB_ok, wipeF, wipeOk, wipeAt, backAt, gEq_int, gNe_int, gEq_str, gNe_str, gEq_bool, gNe_bool, gIs, gIsNot, isNon, lenD, meT, tyD_str, tyD_list, ati0, ati1, ati2, ati3])
    have e1 : g__law_same (n + 2) none [.tuple ds, .tuple ds] = gOf n__law_same (b__law_same (g__law_same (n + 1))) none [.tuple ds, .tuple ds] := rfl
    rw [e1]
    simp [b__law_same, gOf, noX, runF, endF, outOf, moN, start0, evSs, evS, evE, evEs, evP, evIf, evI, evTg, evTgs, evVar, evTake, evFrz, evLit, litD, evD, evBin, evUn, Res.bind, fin, rvD, asB, evB, evNot, evIte, evBlV, evAll, rvDs, valDs, evMk, mkTup, mkLst, evCallB, evMeth, evPart, evNoPart, evSl, intOf, intD, evChain, cmpI, evApp, evPop, evPop0, splitRs, putOut, evUser, evIter, srcOf, evSrc, lstOf, rng1_ok, rng2_ok, enum1, zip2, xSeq, xNil, xSet, xOwn, xAsg, xExpr, xRet, xIf, xPar, binG, cmpG, gAdd, gSub, gMul, gDiv, gMod, gPow, gNeg, gIdx, gSl, biG, gIsi, isTy, gCmpI, tgName, tgSub, tgTup, tgsCons, tgsNil, Tgs.len, CEs.len, locAt, Sl.loc, setC, evYes, evNone, ixN, smallB_ok, posB_ok, wipeF, wipeOk, wipeAt, backAt, gEq_int, gNe_int, gEq_str, gNe_str, gEq_bool, gNe_bool, gIs, gIsNot, isNon, lenD, meT, tyD_str, tyD_list, ati0, ati1, ati2, ati3, so_tup, c1, gEq_nil]
theorem t_split {m : Nat} {k : Str} {ss : List D} (h : Blt m k ss) : meG .split (.str (tx m k ss)) [.str "\n"] = some (.list (.str (hdT m k) :: ss.map fun s => .str (txt s)), true) := by
  have e : Txt.split (tx m k ss) "\n" = hdT m k :: ss.map txt := by
    refine TL.split_join (s := 10) (S := []) (by decide +kernel) (by decide +kernel) (by simp) fun p hp => ?_
    rcases List.mem_cons.mp hp with rfl | hp
    · exact (hd_f h.hk h.m2 h.m5).2.1
    · obtain ⟨s, hs, rfl⟩ := List.mem_map.mp hp
      exact (h.st s hs).nl
  have e2 := split_g (a := tx m k ss) (b := "\n") (by decide +kernel) (by
    have h1 := StrLaws.join_length_le "\n" (hdT m k :: ss.map txt)
    rw [← TL.join_eq] at h1
    have h2 : (tx m k ss).length ≤ ((hdT m k :: ss.map txt).map (·.length)).sum + (hdT m k :: ss.map txt).length * (Str.length "\n") := h1
    have h3 := sum_len (l := hdT m k :: ss.map txt) fun x hx => by
      rcases List.mem_cons.mp hx with rfl | hx
      · exact (hd_f h.hk h.m2 h.m5).2.2
      · obtain ⟨s, hs, rfl⟩ := List.mem_map.mp hx
        exact (h.st s hs).ln
    have h4 := h.n4
    have h5 : (hdT m k :: ss.map txt).length = ss.length + 1 := by rw [List.length_cons, List.length_map]
    have h6 : (Str.length "\n") = 1 := by decide +kernel
    rw [h6] at h2
    rw [h5] at h2 h3
    show _ ≤ 16000000
    omega)
  rw [e2, e, List.map_cons, List.map_map]
  rfl
def R7 (m : Nat) (k : Str) (ss : List D) (y z : Option D) : Fr := [.val (.str (tx m k ss)), .val (.list (.str (hdT m k) :: ss.map fun s => .str (txt s))), .val (.tuple [.int m, .str k]), .val (.list ss), .un, ov y, ov z, .un]
theorem rb_loop {m : Nat} {k : Str} {ss : List D} : ∀ (ds : List D) (y z : Option D), (∀ d ∈ ds, ∃ (i : Int) (xs : List D), d = .tuple [.int i, .tuple xs]) →
    ∃ y' z', forGo (evTg (.tup (.cons (.name 5) (.cons (.name 6) .nil)))) (evSs q1_read_belt) ds (R7 m k ss y z) = .nx (R7 m k ss y' z')
  | [], y, z, _ => ⟨y, z, rfl⟩
  | d :: ds, y, z, h => by
    obtain ⟨i, xs, rfl⟩ := h d (List.mem_cons_self ..)
    obtain ⟨y', z', e3⟩ := rb_loop (m := m) (k := k) (ss := ss) ds (some (.int i)) (some (.tuple xs)) fun d hd => h d (List.mem_cons_of_mem _ hd)
    refine ⟨y', z', ?_⟩
    have e1 : evTg (.tup (.cons (.name 5) (.cons (.name 6) .nil))) (.tuple [.int i, .tuple xs]) (R7 m k ss y z) = .ok () (R7 m k ss (some (.int i)) (some (.tuple xs))) := by
      cases y <;> cases z <;> simp [R7, gOf, noX, runF, endF, outOf, moN, start0, evSs, evS, evE, evEs, evP, evIf, evI, evTg, evTgs, evVar, evTake, evFrz, evLit, litD, evD, evBin, evUn, Res.bind, fin, rvD, asB, evB, evNot, evIte, evBlV, evAll, rvDs, valDs, evMk, mkTup, mkLst, evCallB, evMeth, evPart, evNoPart, evSl, intOf, intD, evChain, cmpI, evApp, evPop, evPop0, splitRs, putOut, evUser, evIter, srcOf, evSrc, lstOf, rng1_ok, rng2_ok, enum1, zip2, xSeq, xNil, xSet, xOwn, xAsg, xExpr, xRet, xIf, xPar, binG, cmpG, gAdd, gSub, gMul, gDiv, gMod, gPow, gNeg, gIdx, gSl, biG, gIsi, isTy, gCmpI, tgName, tgSub, tgTup, tgsCons, tgsNil, Tgs.len, CEs.len, locAt, Sl.loc, setC, evYes, evNone, ixN, smallB_ok, posB_ok, wipeF, wipeOk, wipeAt, backAt, gEq_int, gNe_int, gEq_str, gNe_str, gEq_bool, gNe_bool, gIs, gIsNot, isNon, lenD, meT, tyD_str, tyD_list, ati0, ati1, ati2, ati3, ov]
    have e2 : evSs q1_read_belt (R7 m k ss (some (.int i)) (some (.tuple xs))) = .nx (R7 m k ss (some (.int i)) (some (.tuple xs))) := by
      simp [R7, q1_read_belt, gOf, noX, runF, endF, outOf, moN, start0, evSs, evS, evE, evEs, evP, evIf, evI, evTg, evTgs, evVar, evTake, evFrz, evLit, litD, evD, evBin, evUn, Res.bind, fin, rvD, asB, evB, evNot, evIte, evBlV, evAll, rvDs, valDs, evMk, mkTup, mkLst, evCallB, evMeth, evPart, evNoPart, evSl, intOf, intD, evChain, cmpI, evApp, evPop, evPop0, splitRs, putOut, evUser, evIter, srcOf, evSrc, lstOf, rng1_ok, rng2_ok, enum1, zip2, xSeq, xNil, xSet, xOwn, xAsg, xExpr, xRet, xIf, xPar, binG, cmpG, gAdd, gSub, gMul, gDiv, gMod, gPow, gNeg, gIdx, gSl, biG, gIsi, isTy, gCmpI, tgName, tgSub, tgTup, tgsCons, tgsNil, Tgs.len, CEs.len, locAt, Sl.loc, setC, evYes, evNone, ixN, smallB_ok, posB_ok, wipeF, wipeOk, wipeAt, backAt, gEq_int, gNe_int, gEq_str, gNe_str, gEq_bool, gNe_bool, gIs, gIsNot, isNon, lenD, meT, tyD_str, tyD_list, ati0, ati1, ati2, ati3, ov]
    unfold forGo
    rw [e1]; simp only
    rw [e2]; simp only
    rw [e3]
theorem t_read {m : Nat} {k : Str} {ss : List D} (h : Blt m k ss) (hp : prd m k ss ≤ 3000) : g_read_belt none [.str (tx m k ss)] = .ok (bl m k ss) false none := by
  have hm : ss.length ≤ most := Nat.le_trans h.n4 (by decide)
  have hs := t_split h
  have hh := (hd_f h.hk h.m2 h.m5).1
  have hi := t_ibv h hp
  let R0 : Fr := [.val (.str (tx m k ss)), .val (.list (.str (hdT m k) :: ss.map fun s => .str (txt s))), .un, .un, .un, .un, .un, .un]
  have c1 : evE c1_read_belt R0 = .ok (.val (.list (ss.map fun s => s)) true) R0 := by
    unfold c1_read_belt
    refine comp_ev (en1 := R0) (en2 := R0) (en3 := R0) (ds := ss.map fun s => .str (txt s)) (by simp [R0, gOf, noX, runF, endF, outOf, moN, start0, evSs, evS, evE, evEs, evP, evIf, evI, evTg, evTgs, evVar, evTake, evFrz, evLit, litD, evD, evBin, evUn, Res.bind, fin, rvD, asB, evB, evNot, evIte, evBlV, evAll, rvDs, valDs, evMk, mkTup, mkLst, evCallB, evMeth, evPart, evNoPart, evSl, intOf, intD, evChain, cmpI, evApp, evPop, evPop0, splitRs, putOut, evUser, evIter, srcOf, evSrc, lstOf, rng1_ok, rng2_ok, enum1, zip2, xSeq, xNil, xSet, xOwn, xAsg, xExpr, xRet, xIf, xPar, binG, cmpG, gAdd, gSub, gMul, gDiv, gMod, gPow, gNeg, gIdx, gSl, biG, gIsi, isTy, gCmpI, tgName, tgSub, tgTup, tgsCons, tgsNil, Tgs.len, CEs.len, locAt, Sl.loc, setC, evYes, evNone, ixN, smallB_ok, posB_ok, wipeF, wipeOk, wipeAt, backAt, gEq_int, gNe_int, gEq_str, gNe_str, gEq_bool, gNe_bool, gIs, gIsNot, isNon, lenD, meT, tyD_str, tyD_list, ati0, ati1, ati2, ati3, cut_from1]) (by simp [R0, gOf, noX, runF, endF, outOf, moN, start0, evSs, evS, evE, evEs, evP, evIf, evI, evTg, evTgs, evVar, evTake, evFrz, evLit, litD, evD, evBin, evUn, Res.bind, fin, rvD, asB, evB, evNot, evIte, evBlV, evAll, rvDs, valDs, evMk, mkTup, mkLst, evCallB, evMeth, evPart, evNoPart, evSl, intOf, intD, evChain, cmpI, evApp, evPop, evPop0, splitRs, putOut, evUser, evIter, srcOf, evSrc, lstOf, rng1_ok, rng2_ok, enum1, zip2, xSeq, xNil, xSet, xOwn, xAsg, xExpr, xRet, xIf, xPar, binG, cmpG, gAdd, gSub, gMul, gDiv, gMod, gPow, gNeg, gIdx, gSl, biG, gIsi, isTy, gCmpI, tgName, tgSub, tgTup, tgsCons, tgsNil, Tgs.len, CEs.len, locAt, Sl.loc, setC, evYes, evNone, ixN, smallB_ok, posB_ok, wipeF, wipeOk, wipeAt, backAt, gEq_int, gNe_int, gEq_str, gNe_str, gEq_bool, gNe_bool, gIs, gIsNot, isNon, lenD, meT, tyD_str, tyD_list, ati0, ati1, ati2, ati3]) (by rw [List.length_map]; exact hm) (compGo_map2 ss fun s hd => ?_) (by simp [R0, gOf, noX, runF, endF, outOf, moN, start0, evSs, evS, evE, evEs, evP, evIf, evI, evTg, evTgs, evVar, evTake, evFrz, evLit, litD, evD, evBin, evUn, Res.bind, fin, rvD, asB, evB, evNot, evIte, evBlV, evAll, rvDs, valDs, evMk, mkTup, mkLst, evCallB, evMeth, evPart, evNoPart, evSl, intOf, intD, evChain, cmpI, evApp, evPop, evPop0, splitRs, putOut, evUser, evIter, srcOf, evSrc, lstOf, rng1_ok, rng2_ok, enum1, zip2, xSeq, xNil, xSet, xOwn, xAsg, xExpr, xRet, xIf, xPar, binG, cmpG, gAdd, gSub, gMul, gDiv, gMod, gPow, gNeg, gIdx, gSl, biG, gIsi, isTy, gCmpI, tgName, tgSub, tgTup, tgsCons, tgsNil, Tgs.len, CEs.len, locAt, Sl.loc, setC, evYes, evNone, ixN, smallB_ok, posB_ok, wipeF, wipeOk, wipeAt, backAt, gEq_int, gNe_int, gEq_str, gNe_str, gEq_bool, gNe_bool, gIs, gIsNot, isNon, lenD, meT, tyD_str, tyD_list, ati0, ati1, ati2, ati3])
    let R1 : Fr := [.val (.str (tx m k ss)), .val (.list (.str (hdT m k) :: ss.map fun s => .str (txt s))), .un, .un, .val (.str (txt s)), .un, .un, .un]
    exact ⟨R1, R1, R1, false, by simp [R0, R1, gOf, noX, runF, endF, outOf, moN, start0, evSs, evS, evE, evEs, evP, evIf, evI, evTg, evTgs, evVar, evTake, evFrz, evLit, litD, evD, evBin, evUn, Res.bind, fin, rvD, asB, evB, evNot, evIte, evBlV, evAll, rvDs, valDs, evMk, mkTup, mkLst, evCallB, evMeth, evPart, evNoPart, evSl, intOf, intD, evChain, cmpI, evApp, evPop, evPop0, splitRs, putOut, evUser, evIter, srcOf, evSrc, lstOf, rng1_ok, rng2_ok, enum1, zip2, xSeq, xNil, xSet, xOwn, xAsg, xExpr, xRet, xIf, xPar, binG, cmpG, gAdd, gSub, gMul, gDiv, gMod, gPow, gNeg, gIdx, gSl, biG, gIsi, isTy, gCmpI, tgName, tgSub, tgTup, tgsCons, tgsNil, Tgs.len, CEs.len, locAt, Sl.loc, setC, evYes, evNone, ixN, smallB_ok, posB_ok, wipeF, wipeOk, wipeAt, backAt, gEq_int, gNe_int, gEq_str, gNe_str, gEq_bool, gNe_bool, gIs, gIsNot, isNon, lenD, meT, tyD_str, tyD_list, ati0, ati1, ati2, ati3], by simp [gOf, noX, runF, endF, outOf, moN, start0, evSs, evS, evE, evEs, evP, evIf, evI, evTg, evTgs, evVar, evTake, evFrz, evLit, litD, evD, evBin, evUn, Res.bind, fin, rvD, asB, evB, evNot, evIte, evBlV, evAll, rvDs, valDs, evMk, mkTup, mkLst, evCallB, evMeth, evPart, evNoPart, evSl, intOf, intD, evChain, cmpI, evApp, evPop, evPop0, splitRs, putOut, evUser, evIter, srcOf, evSrc, lstOf, rng1_ok, rng2_ok, enum1, zip2, xSeq, xNil, xSet, xOwn, xAsg, xExpr, xRet, xIf, xPar, binG, cmpG, gAdd, gSub, gMul, gDiv, gMod, gPow, gNeg, gIdx, gSl, biG, gIsi, isTy, gCmpI, tgName, tgSub, tgTup, tgsCons, tgsNil, Tgs.len, CEs.len, locAt, Sl.loc, setC, evYes, evNone, ixN, smallB_ok, posB_ok, wipeF, wipeOk, wipeAt, backAt, gEq_int, gNe_int, gEq_str, gNe_str, gEq_bool, gNe_bool, gIs, gIsNot, isNon, lenD, meT, tyD_str, tyD_list, ati0, ati1, ati2, ati3], by simp [R1, gOf, noX, runF, endF, outOf, moN, start0, evSs, evS, evE, evEs, evP, evIf, evI, evTg, evTgs, evVar, evTake, evFrz, evLit, litD, evD, evBin, evUn, Res.bind, fin, rvD, asB, evB, evNot, evIte, evBlV, evAll, rvDs, valDs, evMk, mkTup, mkLst, evCallB, evMeth, evPart, evNoPart, evSl, intOf, intD, evChain, cmpI, evApp, evPop, evPop0, splitRs, putOut, evUser, evIter, srcOf, evSrc, lstOf, rng1_ok, rng2_ok, enum1, zip2, xSeq, xNil, xSet, xOwn, xAsg, xExpr, xRet, xIf, xPar, binG, cmpG, gAdd, gSub, gMul, gDiv, gMod, gPow, gNeg, gIdx, gSl, biG, gIsi, isTy, gCmpI, tgName, tgSub, tgTup, tgsCons, tgsNil, Tgs.len, CEs.len, locAt, Sl.loc, setC, evYes, evNone, ixN, smallB_ok, posB_ok, wipeF, wipeOk, wipeAt, backAt, gEq_int, gNe_int, gEq_str, gNe_str, gEq_bool, gNe_bool, gIs, gIsNot, isNon, lenD, meT, tyD_str, tyD_list, ati0, ati1, ati2, ati3, (h.st s hd).sf], by simp [R0, R1, gOf, noX, runF, endF, outOf, moN, start0, evSs, evS, evE, evEs, evP, evIf, evI, evTg, evTgs, evVar, evTake, evFrz, evLit, litD, evD, evBin, evUn, Res.bind, fin, rvD, asB, evB, evNot, evIte, evBlV, evAll, rvDs, valDs, evMk, mkTup, mkLst, evCallB, evMeth, evPart, evNoPart, evSl, intOf, intD, evChain, cmpI, evApp, evPop, evPop0, splitRs, putOut, evUser, evIter, srcOf, evSrc, lstOf, rng1_ok, rng2_ok, enum1, zip2, xSeq, xNil, xSet, xOwn, xAsg, xExpr, xRet, xIf, xPar, binG, cmpG, gAdd, gSub, gMul, gDiv, gMod, gPow, gNeg, gIdx, gSl, biG, gIsi, isTy, gCmpI, tgName, tgSub, tgTup, tgsCons, tgsNil, Tgs.len, CEs.len, locAt, Sl.loc, setC, evYes, evNone, ixN, smallB_ok, posB_ok, wipeF, wipeOk, wipeAt, backAt, gEq_int, gNe_int, gEq_str, gNe_str, gEq_bool, gNe_bool, gIs, gIsNot, isNon, lenD, meT, tyD_str, tyD_list, ati0, ati1, ati2, ati3]⟩
  rw [List.map_id'] at c1
  obtain ⟨y, z, l1⟩ := rb_loop (m := m) (k := k) (ss := ss) (enumFrom 0 ss) none none fun d hd => by
    obtain ⟨i, x, e1, rfl⟩ := enum_mem hd
    obtain ⟨a, b, e2⟩ := st_ix (h.st x (List.mem_of_getElem? e1))
    exact ⟨i, _, by rw [e2]⟩
  have l2 : evS l1_read_belt (R7 m k ss none none) = .nx (R7 m k ss y z) := by
    unfold l1_read_belt
    rw [for_ev (ds := enumFrom 0 ss) (en1 := R7 m k ss none none) (by simp [R7, gOf, noX, runF, endF, outOf, moN, start0, evSs, evS, evE, evEs, evP, evIf, evI, evTg, evTgs, evVar, evTake, evFrz, evLit, litD, evD, evBin, evUn, Res.bind, fin, rvD, asB, evB, evNot, evIte, evBlV, evAll, rvDs, valDs, evMk, mkTup, mkLst, evCallB, evMeth, evPart, evNoPart, evSl, intOf, intD, evChain, cmpI, evApp, evPop, evPop0, splitRs, putOut, evUser, evIter, srcOf, evSrc, lstOf, rng1_ok, rng2_ok, enum1, zip2, xSeq, xNil, xSet, xOwn, xAsg, xExpr, xRet, xIf, xPar, binG, cmpG, gAdd, gSub, gMul, gDiv, gMod, gPow, gNeg, gIdx, gSl, biG, gIsi, isTy, gCmpI, tgName, tgSub, tgTup, tgsCons, tgsNil, Tgs.len, CEs.len, locAt, Sl.loc, setC, evYes, evNone, ixN, smallB_ok, posB_ok, wipeF, wipeOk, wipeAt, backAt, gEq_int, gNe_int, gEq_str, gNe_str, gEq_bool, gNe_bool, gIs, gIsNot, isNon, lenD, meT, tyD_str, tyD_list, ati0, ati1, ati2, ati3, ov]), l1]
  simp only [R7, ov, R0] at l2 c1
  have h3 : 3 ≤ most := by decide
  simp only [bl] at hi ⊢
  cases y <;> cases z <;> simp [g_read_belt, b_read_belt, gOf, noX, runF, endF, outOf, moN, start0, evSs, evS, evE, evEs, evP, evIf, evI, evTg, evTgs, evVar, evTake, evFrz, evLit, litD, evD, evBin, evUn, Res.bind, fin, rvD, asB, evB, evNot, evIte, evBlV, evAll, rvDs, valDs, evMk, mkTup, mkLst, evCallB, evMeth, evPart, evNoPart, evSl, intOf, intD, evChain, cmpI, evApp, evPop, evPop0, splitRs, putOut, evUser, evIter, srcOf, evSrc, lstOf, rng1_ok, rng2_ok, enum1, zip2, xSeq, xNil, xSet, xOwn, xAsg, xExpr, xRet, xIf, xPar, binG, cmpG, gAdd, gSub, gMul, gDiv, gMod, gPow, gNeg, gIdx, gSl, biG, gIsi, isTy, gCmpI, tgName, tgSub, tgTup, tgsCons, tgsNil, Tgs.len, CEs.len, locAt, Sl.loc, setC, evYes, evNone, ixN, smallB_ok, posB_ok, wipeF, wipeOk, wipeAt, backAt, gEq_int, gNe_int, gEq_str, gNe_str, gEq_bool, gNe_bool, gIs, gIsNot, isNon, lenD, meT, tyD_str, tyD_list, ati0, ati1, ati2, ati3, hs, hh, c1, l2, hi, h3, ati0]
end Mi
set_option Elab.async false
set_option linter.all false
set_option maxRecDepth 100000
set_option autoImplicit false
namespace Mi
open PySem PySem.Spec L2
theorem Dk.mono {n n' : Nat} {d : D} (h : Dk n d) (l : n ≤ n') : Dk n' d := by
  obtain ⟨a, b, c, e, h1, h2, h3, h4⟩ := h
  exact ⟨a, b, c, e, h1, h2, h3, by omega⟩
theorem signs_eq (k : Str) : signs k = (ltr k).map .str := by
  unfold signs ltr
  rw [List.map_map]
  rfl
theorem ltr_len {k : Str} (h : k ∈ KS) : ltr k ≠ [] ∧ (ltr k).length < 1000 := by
  simp [KS] at h
  rcases h with rfl | rfl | rfl <;> decide +kernel
theorem hat_in {k : Str} {p : Nat} {r : Str} (h : r ∈ rls) : hat p r ∈ stAt k p := List.mem_append_left _ (List.mem_map_of_mem h)
theorem pik_in {k : Str} {p : Nat} {w : Str} {b : Int} (h : w ∈ wds k) (hb : b ∈ [(0 : Int), 1, 2]) : pik p w b ∈ stAt k p :=
  List.mem_append_right _ (List.mem_flatMap.mpr ⟨w, h, List.mem_map_of_mem hb⟩)
def SF (d : D) (p : Nat) (k : Str) (least : Bool) (y z : Sl) : Fr := [.mu d, .val (.int p), .val (.str k), .val (.bool least), y, z]
/-- the letters drawn -/
theorem t_wish {n p : Nat} {d : D} {k : Str} (h : Dk n d) (hn : n < 900000000) (hk : k ∈ KS) : ∃ ys d', evE c1__law_station (SF d p k false .un .un) = .ok (.val (.list (ys.map .str)) true) (SF d' p k false .un .un) ∧ Txt.join "" ys ∈ wds k ∧ ys.length ≤ 2 ∧ (∀ y ∈ ys, y ∈ ltr k) ∧ Dk (n + 3) d' := by
  obtain ⟨r, d1, e1, r0, r1, k1⟩ := t_pick (s := 2) h (by omega) (by decide) (by decide)
  have hl := lenk hk
  obtain ⟨q1, q2⟩ := ltr_len hk
  have step : ∀ {j : Nat} {d : D}, Dk (n + j) d → j < 5 → ∃ y d', g__law_one (some d) [.list (signs k)] = .ok (.str y) false (some d') ∧ y ∈ ltr k ∧ Dk (n + j + 1) d' := fun {j d} hd hj => by
    obtain ⟨y, d', e, hy, kd⟩ := t_one (ds := signs k) hd (by omega) (by rw [signs_eq]; simpa using q1) (by rw [signs_eq, List.length_map]; exact q2)
    rw [signs_eq] at hy
    obtain ⟨z, hz, rfl⟩ := List.mem_map.mp hy
    exact ⟨z, d', e, hz, kd⟩
  have rr : r = 0 ∨ r = 1 := by omega
  have run : ∀ {j : Nat} {d : D} (i : Int), Dk (n + j) d → j < 5 → ∃ y d', y ∈ ltr k ∧ Dk (n + j + 1) d' ∧ ∀ ds ys en', compGo [5] (evTg (.name 5)) (evIf .nil) (evE (.call "_law_one" 2 g__law_one (.cons (.var 0) (.cons (.bi .list (.cons (.var 2) .nil)) .nil)))) ds (SF d' p k false .un .un) = .ok ys en' →
      compGo [5] (evTg (.name 5)) (evIf .nil) (evE (.call "_law_one" 2 g__law_one (.cons (.var 0) (.cons (.bi .list (.cons (.var 2) .nil)) .nil)))) (.int i :: ds) (SF d p k false .un .un) = .ok (.str y :: ys) en' := fun {j d} i hd hj => by
    obtain ⟨y, d', e, hy, kd⟩ := step hd hj
    obtain ⟨a, b, c, rfl, _⟩ := hd
    obtain ⟨a', b', c', rfl, _⟩ := id kd
    refine ⟨y, _, hy, kd, fun ds ys en' ih => ?_⟩
    have e2 : evTg (.name 5) (.int i) (SF (.list [.int a, .int b, .int c]) p k false .un .un) = .ok () (SF (.list [.int a, .int b, .int c]) p k false .un (.val (.int i))) := by simp [SF, gOf, noX, runF, endF, outOf, moN, start0, evSs, evS, evE, evEs, evP, evIf, evI, evTg, evTgs, evVar, evTake, evFrz, evLit, litD, evD, evBin, evUn, Res.bind, fin, rvD, asB, evB, evNot, evIte, evBlV, evAll, rvDs, valDs, evMk, mkTup, mkLst, evCallB, evMeth, evPart, evNoPart, evSl, intOf, intD, evChain, cmpI, evApp, evPop, evPop0, splitRs, putOut, evUser, evIter, srcOf, evSrc, lstOf, rng1_ok, rng2_ok, enum1, zip2, xSeq, xNil, xSet, xOwn, xAsg, xExpr, xRet, xIf, xPar, binG, cmpG, gAdd, gSub, gMul, gDiv, gMod, gPow, gNeg, gIdx, gSl, biG, gIsi, isTy, gCmpI, tgName, tgSub, tgTup, tgsCons, tgsNil, Tgs.len, CEs.len, locAt, Sl.loc, setC, evYes, evNone, ixN, smallB_ok, posB_ok, wipeF, wipeOk, wipeAt, backAt, gEq_int, gNe_int, gEq_str, gNe_str, gEq_bool, gNe_bool, gIs, gIsNot, isNon, lenD, meT, tyD_str, tyD_list, ati0, ati1, ati2, ati3]
    have e3 : evIf .nil (SF (.list [.int a, .int b, .int c]) p k false .un (.val (.int i))) = .ok true (SF (.list [.int a, .int b, .int c]) p k false .un (.val (.int i))) := rfl
    have e4 : evE (.call "_law_one" 2 g__law_one (.cons (.var 0) (.cons (.bi .list (.cons (.var 2) .nil)) .nil))) (SF (.list [.int a, .int b, .int c]) p k false .un (.val (.int i))) = .ok (.val (.str y) false) (SF (.list [.int a', .int b', .int c']) p k false .un (.val (.int i))) := by
      simp [SF, gOf, noX, runF, endF, outOf, moN, start0, evSs, evS, evE, evEs, evP, evIf, evI, evTg, evTgs, evVar, evTake, evFrz, evLit, litD, evD, evBin, evUn, Res.bind, fin, rvD, asB, evB, evNot, evIte, evBlV, evAll, rvDs, valDs, evMk, mkTup, mkLst, evCallB, evMeth, evPart, evNoPart, evSl, intOf, intD, evChain, cmpI, evApp, evPop, evPop0, splitRs, putOut, evUser, evIter, srcOf, evSrc, lstOf, rng1_ok, rng2_ok, enum1, zip2, xSeq, xNil, xSet, xOwn, xAsg, xExpr, xRet, xIf, xPar, binG, cmpG, gAdd, gSub, gMul, gDiv, gMod, gPow, gNeg, gIdx, gSl, biG, gIsi, isTy, gCmpI, tgName, tgSub, tgTup, tgsCons, tgsNil, Tgs.len, CEs.len, locAt, Sl.loc, setC, evYes, evNone, ixN, smallB_ok, posB_ok, wipeF, wipeOk, wipeAt, backAt, gEq_int, gNe_int, gEq_str, gNe_str, gEq_bool, gNe_bool, gIs, gIsNot, isNon, lenD, meT, tyD_str, tyD_list, ati0, ati1, ati2, ati3, hl, e]
    have e5 : wipeF [5] (SF (.list [.int a', .int b', .int c']) p k false .un (.val (.int i))) = some (SF (.list [.int a', .int b', .int c']) p k false .un .un) := by simp [SF, gOf, noX, runF, endF, outOf, moN, start0, evSs, evS, evE, evEs, evP, evIf, evI, evTg, evTgs, evVar, evTake, evFrz, evLit, litD, evD, evBin, evUn, Res.bind, fin, rvD, asB, evB, evNot, evIte, evBlV, evAll, rvDs, valDs, evMk, mkTup, mkLst, evCallB, evMeth, evPart, evNoPart, evSl, intOf, intD, evChain, cmpI, evApp, evPop, evPop0, splitRs, putOut, evUser, evIter, srcOf, evSrc, lstOf, rng1_ok, rng2_ok, enum1, zip2, xSeq, xNil, xSet, xOwn, xAsg, xExpr, xRet, xIf, xPar, binG, cmpG, gAdd, gSub, gMul, gDiv, gMod, gPow, gNeg, gIdx, gSl, biG, gIsi, isTy, gCmpI, tgName, tgSub, tgTup, tgsCons, tgsNil, Tgs.len, CEs.len, locAt, Sl.loc, setC, evYes, evNone, ixN, smallB_ok, posB_ok, wipeF, wipeOk, wipeAt, backAt, gEq_int, gNe_int, gEq_str, gNe_str, gEq_bool, gNe_bool, gIs, gIsNot, isNon, lenD, meT, tyD_str, tyD_list, ati0, ati1, ati2, ati3]
    unfold compGo
    rw [e2]; simp only
    rw [e3]; simp only
    rw [e4]; simp only
    rw [e5]; simp only
    rw [ih]
  have fin : ∀ {ds ys : List D} {d' : D}, ds.length ≤ most → rngD 0 (1 + r).toNat = ds → compGo [5] (evTg (.name 5)) (evIf .nil) (evE (.call "_law_one" 2 g__law_one (.cons (.var 0) (.cons (.bi .list (.cons (.var 2) .nil)) .nil)))) ds (SF d1 p k false .un .un) = .ok ys (SF d' p k false .un .un) →
      evE c1__law_station (SF d p k false .un .un) = .ok (.val (.list ys) true) (SF d' p k false .un .un) := fun {ds ys d'} hd e2 e3 => by
    unfold c1__law_station
    have l1 : 1 + r < 1000000 := by omega
    have l0 : 0 ≤ 1 + r := by omega
    obtain ⟨a, b, c, rfl, _⟩ := h
    obtain ⟨a1, b1, c1, rfl, _⟩ := id k1
    refine comp_ev (ds := ds) (en1 := SF (.list [.int a1, .int b1, .int c1]) p k false .un .un) (en2 := SF (.list [.int a1, .int b1, .int c1]) p k false .un .un) (by simp [SF, gOf, noX, runF, endF, outOf, moN, start0, evSs, evS, evE, evEs, evP, evIf, evI, evTg, evTgs, evVar, evTake, evFrz, evLit, litD, evD, evBin, evUn, Res.bind, fin, rvD, asB, evB, evNot, evIte, evBlV, evAll, rvDs, valDs, evMk, mkTup, mkLst, evCallB, evMeth, evPart, evNoPart, evSl, intOf, intD, evChain, cmpI, evApp, evPop, evPop0, splitRs, putOut, evUser, evIter, srcOf, evSrc, lstOf, rng1_ok, rng2_ok, enum1, zip2, xSeq, xNil, xSet, xOwn, xAsg, xExpr, xRet, xIf, xPar, binG, cmpG, gAdd, gSub, gMul, gDiv, gMod, gPow, gNeg, gIdx, gSl, biG, gIsi, isTy, gCmpI, tgName, tgSub, tgTup, tgsCons, tgsNil, Tgs.len, CEs.len, locAt, Sl.loc, setC, evYes, evNone, ixN, smallB_ok, posB_ok, wipeF, wipeOk, wipeAt, backAt, gEq_int, gNe_int, gEq_str, gNe_str, gEq_bool, gNe_bool, gIs, gIsNot, isNon, lenD, meT, tyD_str, tyD_list, ati0, ati1, ati2, ati3, e1, l0, l1, e2]) (by simp [SF, gOf, noX, runF, endF, outOf, moN, start0, evSs, evS, evE, evEs, evP, evIf, evI, evTg, evTgs, evVar, evTake, evFrz, evLit, litD, evD, evBin, evUn, Res.bind, fin, rvD, asB, evB, evNot, evIte, evBlV, evAll, rvDs, valDs, evMk, mkTup, mkLst, evCallB, evMeth, evPart, evNoPart, evSl, intOf, intD, evChain, cmpI, evApp, evPop, evPop0, splitRs, putOut, evUser, evIter, srcOf, evSrc, lstOf, rng1_ok, rng2_ok, enum1, zip2, xSeq, xNil, xSet, xOwn, xAsg, xExpr, xRet, xIf, xPar, binG, cmpG, gAdd, gSub, gMul, gDiv, gMod, gPow, gNeg, gIdx, gSl, biG, gIsi, isTy, gCmpI, tgName, tgSub, tgTup, tgsCons, tgsNil, Tgs.len, CEs.len, locAt, Sl.loc, setC, evYes, evNone, ixN, smallB_ok, posB_ok, wipeF, wipeOk, wipeAt, backAt, gEq_int, gNe_int, gEq_str, gNe_str, gEq_bool, gNe_bool, gIs, gIsNot, isNon, lenD, meT, tyD_str, tyD_list, ati0, ati1, ati2, ati3]) hd e3 (by simp [SF, gOf, noX, runF, endF, outOf, moN, start0, evSs, evS, evE, evEs, evP, evIf, evI, evTg, evTgs, evVar, evTake, evFrz, evLit, litD, evD, evBin, evUn, Res.bind, fin, rvD, asB, evB, evNot, evIte, evBlV, evAll, rvDs, valDs, evMk, mkTup, mkLst, evCallB, evMeth, evPart, evNoPart, evSl, intOf, intD, evChain, cmpI, evApp, evPop, evPop0, splitRs, putOut, evUser, evIter, srcOf, evSrc, lstOf, rng1_ok, rng2_ok, enum1, zip2, xSeq, xNil, xSet, xOwn, xAsg, xExpr, xRet, xIf, xPar, binG, cmpG, gAdd, gSub, gMul, gDiv, gMod, gPow, gNeg, gIdx, gSl, biG, gIsi, isTy, gCmpI, tgName, tgSub, tgTup, tgsCons, tgsNil, Tgs.len, CEs.len, locAt, Sl.loc, setC, evYes, evNone, ixN, smallB_ok, posB_ok, wipeF, wipeOk, wipeAt, backAt, gEq_int, gNe_int, gEq_str, gNe_str, gEq_bool, gNe_bool, gIs, gIsNot, isNon, lenD, meT, tyD_str, tyD_list, ati0, ati1, ati2, ati3])
  obtain ⟨y, d2, hy, k2, f2⟩ := run (j := 1) 0 k1 (by decide)
  rcases rr with rfl | rfl
  · refine ⟨[y], d2, fin (ds := [.int 0]) (by decide) rfl (f2 [] [] _ rfl), ?_, by simp, fun z hz => by rw [List.mem_singleton.mp hz]; exact hy, k2.mono (by omega)⟩
    exact List.mem_append_left _ (List.mem_map_of_mem hy)
  · obtain ⟨z, d3, hz, k3, f3⟩ := run (j := 2) 1 k2 (by decide)
    refine ⟨[y, z], d3, fin (ds := [.int 0, .int 1]) (by decide) rfl (f2 _ _ _ (f3 [] [] _ rfl)), ?_, by simp, fun u hu => ?_, k3⟩
    · exact List.mem_append_right _ (List.mem_flatMap.mpr ⟨y, hy, List.mem_map_of_mem hz⟩)
    · simp at hu
      rcases hu with rfl | rfl <;> assumption
theorem wish_c {k : Str} {ys : List Str} (hy : ∀ y ∈ ys, y ∈ ltr k) (hl : ys.length ≤ 2) : (ys.map (·.length)).sum + ys.length * (Str.length "") ≤ most := by
  have h1 : ∀ y ∈ ys, y.length = 1 := fun y h => by
    obtain ⟨c, _, rfl⟩ := List.mem_map.mp (hy y h)
    rfl
  have h2 : (ys.map (·.length)).sum = ys.length := by
    clear hy hl
    induction ys with
    | nil => rfl
    | cons a r ih =>
      rw [List.map_cons, List.sum_cons, List.length_cons, ih fun y h => h1 y (List.mem_cons_of_mem _ h), h1 a (List.mem_cons_self ..)]
      omega
  have h3 : (Str.length "") = 0 := by decide +kernel
  rw [h2, h3]
  show _ ≤ 16000000
  omega
theorem strs_str : ∀ l : List Str, strsOf (l.map .str) = some l
  | [] => rfl
  | x :: r => by
    rw [List.map_cons]
    show (strsOf (r.map .str)).map _ = _
    rw [strs_str r]
    rfl
theorem t_station {n p : Nat} {d : D} {k : Str} {least : Bool} (h : Dk n d) (hn : n < 800000000) (hk : k ∈ KS) :
    ∃ s d', g__law_station (some d) [.int p, .str k, .bool least] = .ok s false (some d') ∧ s ∈ stAt k p ∧ (least = true → isH s = true) ∧ Dk (n + 6) d' := by
  have hat' : ∀ {n : Nat} {d : D}, Dk n d → n < 900000000 → ∃ r d', g__law_one (some d) [.list [.str "eager", .str "eager", .str "polite", .str "gap"]] = .ok (.str r) false (some d') ∧ r ∈ rls ∧ Dk (n + 1) d' := fun {n d} hd hl => by
    obtain ⟨y, d', e, hy, kd⟩ := t_one (ds := [.str "eager", .str "eager", .str "polite", .str "gap"]) hd (by omega) (by simp) (by simp)
    simp at hy
    rcases hy with rfl | rfl | rfl
    · exact ⟨_, d', e, by simp [rls], kd⟩
    · exact ⟨_, d', e, by simp [rls], kd⟩
    · exact ⟨_, d', e, by simp [rls], kd⟩
  cases least with
  | true =>
    obtain ⟨r, d', e, hr, kd⟩ := hat' h (by omega)
    obtain ⟨a, b, c, rfl, _⟩ := h
    refine ⟨hat p r, d', ?_, hat_in hr, fun _ => rfl, kd.mono (by omega)⟩
    obtain ⟨a', b', c', rfl, _⟩ := kd
    simp [g__law_station, b__law_station, gOf, noX, runF, endF, outOf, moN, start0, evSs, evS, evE, evEs, evP, evIf, evI, evTg, evTgs, evVar, evTake, evFrz, evLit, litD, evD, evBin, evUn, Res.bind, fin, rvD, asB, evB, evNot, evIte, evBlV, evAll, rvDs, valDs, evMk, mkTup, mkLst, evCallB, evMeth, evPart, evNoPart, evSl, intOf, intD, evChain, cmpI, evApp, evPop, evPop0, splitRs, putOut, evUser, evIter, srcOf, evSrc, lstOf, rng1_ok, rng2_ok, enum1, zip2, xSeq, xNil, xSet, xOwn, xAsg, xExpr, xRet, xIf, xPar, binG, cmpG, gAdd, gSub, gMul, gDiv, gMod, gPow, gNeg, gIdx, gSl, biG, gIsi, isTy, gCmpI, tgName, tgSub, tgTup, tgsCons, tgsNil, Tgs.len, CEs.len, locAt, Sl.loc, setC, evYes, evNone, ixN, smallB_ok, posB_ok, wipeF, wipeOk, wipeAt, backAt, gEq_int, gNe_int, gEq_str, gNe_str, gEq_bool, gNe_bool, gIs, gIsNot, isNon, lenD, meT, tyD_str, tyD_list, ati0, ati1, ati2, ati3, e, hat]
  | false =>
    obtain ⟨r0, d1, e1, r00, r01, k1⟩ := t_pick (s := 2) h (by omega) (by decide) (by decide)
    by_cases hz : r0 = 0
    · obtain ⟨r, d', e, hr, kd⟩ := hat' k1 (by omega)
      obtain ⟨a, b, c, rfl, _⟩ := h
      obtain ⟨a1, b1, c1, rfl, _⟩ := k1
      refine ⟨hat p r, d', ?_, hat_in hr, fun z => (by cases z), kd.mono (by omega)⟩
      obtain ⟨a', b', c', rfl, _⟩ := kd
      simp [g__law_station, b__law_station, gOf, noX, runF, endF, outOf, moN, start0, evSs, evS, evE, evEs, evP, evIf, evI, evTg, evTgs, evVar, evTake, evFrz, evLit, litD, evD, evBin, evUn, Res.bind, fin, rvD, asB, evB, evNot, evIte, evBlV, evAll, rvDs, valDs, evMk, mkTup, mkLst, evCallB, evMeth, evPart, evNoPart, evSl, intOf, intD, evChain, cmpI, evApp, evPop, evPop0, splitRs, putOut, evUser, evIter, srcOf, evSrc, lstOf, rng1_ok, rng2_ok, enum1, zip2, xSeq, xNil, xSet, xOwn, xAsg, xExpr, xRet, xIf, xPar, binG, cmpG, gAdd, gSub, gMul, gDiv, gMod, gPow, gNeg, gIdx, gSl, biG, gIsi, isTy, gCmpI, tgName, tgSub, tgTup, tgsCons, tgsNil, Tgs.len, CEs.len, locAt, Sl.loc, setC, evYes, evNone, ixN, smallB_ok, posB_ok, wipeF, wipeOk, wipeAt, backAt, gEq_int, gNe_int, gEq_str, gNe_str, gEq_bool, gNe_bool, gIs, gIsNot, isNon, lenD, meT, tyD_str, tyD_list, ati0, ati1, ati2, ati3, e1, hz, e, hat]
    · obtain ⟨ys, d2, e2, hw, hl, hy, k2⟩ := t_wish (p := p) k1 (by omega) hk
      obtain ⟨y, d3, e3, hb, k3⟩ := t_one (ds := [.int 0, .int 0, .int 1, .int 2]) k2 (by omega) (by simp) (by simp)
      have hb' : ∃ b : Int, y = .int b ∧ b ∈ [(0 : Int), 1, 2] := by
        simp at hb
        rcases hb with rfl | rfl | rfl
        · exact ⟨0, rfl, by simp⟩
        · exact ⟨1, rfl, by simp⟩
        · exact ⟨2, rfl, by simp⟩
      obtain ⟨b, rfl, hb2⟩ := hb'
      have hj : meG .join (.str "") [.list (ys.map .str)] = some (.str (Txt.join "" ys), false) := join_g (strs_str ys) (wish_c hy hl)
      obtain ⟨a, b0, c, rfl, _⟩ := h
      obtain ⟨a1, b1, c1, rfl, _⟩ := k1
      obtain ⟨a2, b2, c2, rfl, _⟩ := k2
      refine ⟨pik p (Txt.join "" ys) b, d3, ?_, pik_in hw hb2, fun z => (by cases z), k3.mono (by omega)⟩
      obtain ⟨a3, b3, c3, rfl, _⟩ := k3
      simp only [SF] at e2
      simp [g__law_station, b__law_station, gOf, noX, runF, endF, outOf, moN, start0, evSs, evS, evE, evEs, evP, evIf, evI, evTg, evTgs, evVar, evTake, evFrz, evLit, litD, evD, evBin, evUn, Res.bind, fin, rvD, asB, evB, evNot, evIte, evBlV, evAll, rvDs, valDs, evMk, mkTup, mkLst, evCallB, evMeth, evPart, evNoPart, evSl, intOf, intD, evChain, cmpI, evApp, evPop, evPop0, splitRs, putOut, evUser, evIter, srcOf, evSrc, lstOf, rng1_ok, rng2_ok, enum1, zip2, xSeq, xNil, xSet, xOwn, xAsg, xExpr, xRet, xIf, xPar, binG, cmpG, gAdd, gSub, gMul, gDiv, gMod, gPow, gNeg, gIdx, gSl, biG, gIsi, isTy, gCmpI, tgName, tgSub, tgTup, tgsCons, tgsNil, Tgs.len, CEs.len, locAt, Sl.loc, setC, evYes, evNone, ixN, smallB_ok, posB_ok, wipeF, wipeOk, wipeAt, backAt, gEq_int, gNe_int, gEq_str, gNe_str, gEq_bool, gNe_bool, gIs, gIsNot, isNon, lenD, meT, tyD_str, tyD_list, ati0, ati1, ati2, ati3, e1, hz, e2, hj, e3, pik]
theorem sortI_id {l : List Int} (h : l.Pairwise (· ≤ ·)) : sortI l = l := sorted_uniq (sortI_perm l) (sortI_sorted l) h
theorem cut_to (ds : List D) (n : Nat) : cutD ds none (some n) = ds.take n := by
  unfold cutD
  rw [HT.sIx_none, show HT.sIx ds.length ds.length (some n) = min n ds.length from HT.sIx_nat ds.length ds.length n]
  show List.take (min n ds.length - 0) ds = _
  rw [Nat.sub_zero]
  rcases Nat.le_total n ds.length with h | h
  · rw [Nat.min_eq_left h]
  · rw [Nat.min_eq_right h, List.take_length, List.take_of_length_le h]
theorem ints_map (l : List Nat) : intsOf (l.map fun (i : Nat) => .int (i : Int)) = some (l.map fun (i : Nat) => (i : Int)) := by
  induction l with
  | nil => rfl
  | cons a r ih =>
    rw [List.map_cons, List.map_cons]
    show (intsOf (r.map fun (i : Nat) => .int (i : Int))).map _ = _
    rw [ih]
    rfl
def Q0 (d : D) (most : Int) (y2 : Sl) (m : Nat) (k : Str) (y5 : Sl) (y7 y8 y10 : Sl) : Fr := [.mu d, .val (.int most), y2, .val (.int m), .val (.str k), y5, .un, y7, y8, .un, y10]
/-- the places drawn -/
theorem t_places {n m : Nat} {d : D} {k : Str} {mo : Int} {y2 y5 y7 y8 y10 : Option D} (h : Dk n d) (hn : n < 800000000) (hm : m ≤ 5) : ∃ (l : List Nat) (d' : D), evE c1__law_drawn (Q0 d mo (ov y2) m k (ov y5) (ov y7) (ov y8) (ov y10)) = .ok (.val (.list (l.map fun (i : Nat) => .int (i : Int))) true) (Q0 d' mo (ov y2) m k (ov y5) (ov y7) (ov y8) (ov y10)) ∧ l.Sublist (List.range m) ∧ Dk (n + 5) d' := by
  have key : ∀ (r : List Nat) (n : Nat) (d : D), Dk n d → n + r.length < 900000000 → ∃ (l : List Nat) (d' : D), l.Sublist r ∧ Dk (n + r.length) d' ∧ compGo [6] (evTg (.name 6)) (evIf (.cons (.cmp .Gt (.call "_law_pick" 2 g__law_pick (.cons (.var 0) (.cons (.lit (.int 3)) .nil))) (.lit (.int 0))) .nil)) (evE (.var 6)) (r.map fun (i : Nat) => .int (i : Int)) (Q0 d mo (ov y2) m k (ov y5) (ov y7) (ov y8) (ov y10)) = .ok (l.map fun (i : Nat) => .int (i : Int)) (Q0 d' mo (ov y2) m k (ov y5) (ov y7) (ov y8) (ov y10)) := by
    intro r
    induction r with
    | nil => exact fun n d hd _ => ⟨[], d, List.Sublist.refl _, hd, rfl⟩
    | cons i r ih =>
      intro n d hd hl
      rw [List.length_cons] at hl
      obtain ⟨v, d1, e1, v0, v1, k1⟩ := t_pick (s := 3) hd (by omega) (by decide) (by decide)
      obtain ⟨l, d', hs, kd, e⟩ := ih (n + 1) d1 k1 (by omega)
      let Y (d : D) : Fr := [.mu d, .val (.int mo), ov y2, .val (.int m), .val (.str k), ov y5, .val (.int i), ov y7, ov y8, .un, ov y10]
      have t1 : evTg (.name 6) (.int i) (Q0 d mo (ov y2) m k (ov y5) (ov y7) (ov y8) (ov y10)) = .ok () (Y d) := by simp [Q0, Y, gOf, noX, runF, endF, outOf, moN, start0, evSs, evS, evE, evEs, evP, evIf, evI, evTg, evTgs, evVar, evTake, evFrz, evLit, litD, evD, evBin, evUn, Res.bind, fin, rvD, asB, evB, evNot, evIte, evBlV, evAll, rvDs, valDs, evMk, mkTup, mkLst, evCallB, evMeth, evPart, evNoPart, evSl, intOf, intD, evChain, cmpI, evApp, evPop, evPop0, splitRs, putOut, evUser, evIter, srcOf, evSrc, lstOf, rng1_ok, rng2_ok, enum1, zip2, xSeq, xNil, xSet, xOwn, xAsg, xExpr, xRet, xIf, xPar, binG, cmpG, gAdd, gSub, gMul, gDiv, gMod, gPow, gNeg, gIdx, gSl, biG, gIsi, isTy, gCmpI, tgName, tgSub, tgTup, tgsCons, tgsNil, Tgs.len, CEs.len, locAt, Sl.loc, setC, evYes, evNone, ixN, smallB_ok, posB_ok, wipeF, wipeOk, wipeAt, backAt, gEq_int, gNe_int, gEq_str, gNe_str, gEq_bool, gNe_bool, gIs, gIsNot, isNon, lenD, meT, tyD_str, tyD_list, ati0, ati1, ati2, ati3]
      have t2 : evIf (.cons (.cmp .Gt (.call "_law_pick" 2 g__law_pick (.cons (.var 0) (.cons (.lit (.int 3)) .nil))) (.lit (.int 0))) .nil) (Y d) = .ok (decide (0 < v)) (Y d1) := by
        obtain ⟨a, b, c, rfl, _⟩ := hd
        obtain ⟨a1, b1, c1, rfl, _⟩ := k1
        simp [Y, gOf, noX, runF, endF, outOf, moN, start0, evSs, evS, evE, evEs, evP, evIf, evI, evTg, evTgs, evVar, evTake, evFrz, evLit, litD, evD, evBin, evUn, Res.bind, fin, rvD, asB, evB, evNot, evIte, evBlV, evAll, rvDs, valDs, evMk, mkTup, mkLst, evCallB, evMeth, evPart, evNoPart, evSl, intOf, intD, evChain, cmpI, evApp, evPop, evPop0, splitRs, putOut, evUser, evIter, srcOf, evSrc, lstOf, rng1_ok, rng2_ok, enum1, zip2, xSeq, xNil, xSet, xOwn, xAsg, xExpr, xRet, xIf, xPar, binG, cmpG, gAdd, gSub, gMul, gDiv, gMod, gPow, gNeg, gIdx, gSl, biG, gIsi, isTy, gCmpI, tgName, tgSub, tgTup, tgsCons, tgsNil, Tgs.len, CEs.len, locAt, Sl.loc, setC, evYes, evNone, ixN, smallB_ok, posB_ok, wipeF, wipeOk, wipeAt, backAt, gEq_int, gNe_int, gEq_str, gNe_str, gEq_bool, gNe_bool, gIs, gIsNot, isNon, lenD, meT, tyD_str, tyD_list, ati0, ati1, ati2, ati3, e1]
      have t3 : evE (.var 6) (Y d1) = .ok (.val (.int i) false) (Y d1) := by simp [Y, gOf, noX, runF, endF, outOf, moN, start0, evSs, evS, evE, evEs, evP, evIf, evI, evTg, evTgs, evVar, evTake, evFrz, evLit, litD, evD, evBin, evUn, Res.bind, fin, rvD, asB, evB, evNot, evIte, evBlV, evAll, rvDs, valDs, evMk, mkTup, mkLst, evCallB, evMeth, evPart, evNoPart, evSl, intOf, intD, evChain, cmpI, evApp, evPop, evPop0, splitRs, putOut, evUser, evIter, srcOf, evSrc, lstOf, rng1_ok, rng2_ok, enum1, zip2, xSeq, xNil, xSet, xOwn, xAsg, xExpr, xRet, xIf, xPar, binG, cmpG, gAdd, gSub, gMul, gDiv, gMod, gPow, gNeg, gIdx, gSl, biG, gIsi, isTy, gCmpI, tgName, tgSub, tgTup, tgsCons, tgsNil, Tgs.len, CEs.len, locAt, Sl.loc, setC, evYes, evNone, ixN, smallB_ok, posB_ok, wipeF, wipeOk, wipeAt, backAt, gEq_int, gNe_int, gEq_str, gNe_str, gEq_bool, gNe_bool, gIs, gIsNot, isNon, lenD, meT, tyD_str, tyD_list, ati0, ati1, ati2, ati3]
      have t4 : wipeF [6] (Y d1) = some (Q0 d1 mo (ov y2) m k (ov y5) (ov y7) (ov y8) (ov y10)) := by
        cases y2 <;> cases y5 <;> cases y7 <;> cases y8 <;> cases y10 <;> simp [Q0, Y, gOf, noX, runF, endF, outOf, moN, start0, evSs, evS, evE, evEs, evP, evIf, evI, evTg, evTgs, evVar, evTake, evFrz, evLit, litD, evD, evBin, evUn, Res.bind, fin, rvD, asB, evB, evNot, evIte, evBlV, evAll, rvDs, valDs, evMk, mkTup, mkLst, evCallB, evMeth, evPart, evNoPart, evSl, intOf, intD, evChain, cmpI, evApp, evPop, evPop0, splitRs, putOut, evUser, evIter, srcOf, evSrc, lstOf, rng1_ok, rng2_ok, enum1, zip2, xSeq, xNil, xSet, xOwn, xAsg, xExpr, xRet, xIf, xPar, binG, cmpG, gAdd, gSub, gMul, gDiv, gMod, gPow, gNeg, gIdx, gSl, biG, gIsi, isTy, gCmpI, tgName, tgSub, tgTup, tgsCons, tgsNil, Tgs.len, CEs.len, locAt, Sl.loc, setC, evYes, evNone, ixN, smallB_ok, posB_ok, wipeF, wipeOk, wipeAt, backAt, gEq_int, gNe_int, gEq_str, gNe_str, gEq_bool, gNe_bool, gIs, gIsNot, isNon, lenD, meT, tyD_str, tyD_list, ati0, ati1, ati2, ati3, ov]
      by_cases hv : 0 < v
      · refine ⟨i :: l, d', hs.cons₂ i, by rw [List.length_cons]; exact kd.mono (by omega), ?_⟩
        rw [List.map_cons]
        unfold compGo
        rw [t1]; simp only
        rw [t2, decide_eq_true hv]; simp only
        rw [t3]; simp only
        rw [t4]; simp only
        rw [e]
        rfl
      · refine ⟨l, d', hs.cons i, by rw [List.length_cons]; exact kd.mono (by omega), ?_⟩
        rw [List.map_cons]
        unfold compGo
        rw [t1]; simp only
        rw [t2, decide_eq_false hv]; simp only
        rw [t4]; simp only
        rw [e]
  obtain ⟨l, d', hs, kd, e⟩ := key (List.range m) n d h (by rw [List.length_range]; omega)
  refine ⟨l, d', ?_, hs, kd.mono (by rw [List.length_range]; omega)⟩
  have hr : rngD 0 m = (List.range m).map fun (i : Nat) => .int (i : Int) := by
    unfold rngD
    simp
  rw [← hr] at e
  have h5 := mI hm
  unfold c1__law_drawn
  refine comp_ev (ds := rngD 0 m) (en1 := Q0 d mo (ov y2) m k (ov y5) (ov y7) (ov y8) (ov y10)) (en2 := Q0 d mo (ov y2) m k (ov y5) (ov y7) (ov y8) (ov y10)) (by simp [Q0, gOf, noX, runF, endF, outOf, moN, start0, evSs, evS, evE, evEs, evP, evIf, evI, evTg, evTgs, evVar, evTake, evFrz, evLit, litD, evD, evBin, evUn, Res.bind, fin, rvD, asB, evB, evNot, evIte, evBlV, evAll, rvDs, valDs, evMk, mkTup, mkLst, evCallB, evMeth, evPart, evNoPart, evSl, intOf, intD, evChain, cmpI, evApp, evPop, evPop0, splitRs, putOut, evUser, evIter, srcOf, evSrc, lstOf, rng1_ok, rng2_ok, enum1, zip2, xSeq, xNil, xSet, xOwn, xAsg, xExpr, xRet, xIf, xPar, binG, cmpG, gAdd, gSub, gMul, gDiv, gMod, gPow, gNeg, gIdx, gSl, biG, gIsi, isTy, gCmpI, tgName, tgSub, tgTup, tgsCons, tgsNil, Tgs.len, CEs.len, locAt, Sl.loc, setC, evYes, evNone, ixN, smallB_ok, posB_ok, wipeF, wipeOk, wipeAt, backAt, gEq_int, gNe_int, gEq_str, gNe_str, gEq_bool, gNe_bool, gIs, gIsNot, isNon, lenD, meT, tyD_str, tyD_list, ati0, ati1, ati2, ati3, h5]) ?_ (by unfold rngD; rw [List.length_map, List.length_range]; exact Nat.le_trans hm (by decide)) e ?_
  · cases y2 <;> cases y5 <;> cases y7 <;> cases y8 <;> cases y10 <;> simp [Q0, gOf, noX, runF, endF, outOf, moN, start0, evSs, evS, evE, evEs, evP, evIf, evI, evTg, evTgs, evVar, evTake, evFrz, evLit, litD, evD, evBin, evUn, Res.bind, fin, rvD, asB, evB, evNot, evIte, evBlV, evAll, rvDs, valDs, evMk, mkTup, mkLst, evCallB, evMeth, evPart, evNoPart, evSl, intOf, intD, evChain, cmpI, evApp, evPop, evPop0, splitRs, putOut, evUser, evIter, srcOf, evSrc, lstOf, rng1_ok, rng2_ok, enum1, zip2, xSeq, xNil, xSet, xOwn, xAsg, xExpr, xRet, xIf, xPar, binG, cmpG, gAdd, gSub, gMul, gDiv, gMod, gPow, gNeg, gIdx, gSl, biG, gIsi, isTy, gCmpI, tgName, tgSub, tgTup, tgsCons, tgsNil, Tgs.len, CEs.len, locAt, Sl.loc, setC, evYes, evNone, ixN, smallB_ok, posB_ok, wipeF, wipeOk, wipeAt, backAt, gEq_int, gNe_int, gEq_str, gNe_str, gEq_bool, gNe_bool, gIs, gIsNot, isNon, lenD, meT, tyD_str, tyD_list, ati0, ati1, ati2, ati3, ov]
  · simp [Q0, gOf, noX, runF, endF, outOf, moN, start0, evSs, evS, evE, evEs, evP, evIf, evI, evTg, evTgs, evVar, evTake, evFrz, evLit, litD, evD, evBin, evUn, Res.bind, fin, rvD, asB, evB, evNot, evIte, evBlV, evAll, rvDs, valDs, evMk, mkTup, mkLst, evCallB, evMeth, evPart, evNoPart, evSl, intOf, intD, evChain, cmpI, evApp, evPop, evPop0, splitRs, putOut, evUser, evIter, srcOf, evSrc, lstOf, rng1_ok, rng2_ok, enum1, zip2, xSeq, xNil, xSet, xOwn, xAsg, xExpr, xRet, xIf, xPar, binG, cmpG, gAdd, gSub, gMul, gDiv, gMod, gPow, gNeg, gIdx, gSl, biG, gIsi, isTy, gCmpI, tgName, tgSub, tgTup, tgsCons, tgsNil, Tgs.len, CEs.len, locAt, Sl.loc, setC, evYes, evNone, ixN, smallB_ok, posB_ok, wipeF, wipeOk, wipeAt, backAt, gEq_int, gNe_int, gEq_str, gNe_str, gEq_bool, gNe_bool, gIs, gIsNot, isNon, lenD, meT, tyD_str, tyD_list, ati0, ati1, ati2, ati3, ov]
end Mi
set_option Elab.async false
set_option linter.all false
set_option maxRecDepth 100000
set_option autoImplicit false
namespace Mi
open PySem PySem.Spec L2
theorem t_pl4 {n m : Nat} {d : D} {k : Str} {mo : Int} {y2 y5 y7 y8 y10 : Option D} (h : Dk n d) (hn : n < 800000000) (hm : m ≤ 5) : ∃ (l : List Nat) (d' : D), evE o1__law_drawn (Q0 d mo (ov y2) m k (ov y5) (ov y7) (ov y8) (ov y10)) = .ok (.val (.list (l.map fun (i : Nat) => .int (i : Int))) true) (Q0 d' mo (ov y2) m k (ov y5) (ov y7) (ov y8) (ov y10)) ∧ l.Sublist (List.range m) ∧ l.length ≤ 4 ∧ Dk (n + 5) d' := by
  obtain ⟨l, d', e, hs, kd⟩ := t_places (mo := mo) (k := k) (y2 := y2) (y5 := y5) (y7 := y7) (y8 := y8) (y10 := y10) h hn hm
  refine ⟨l.take 4, d', ?_, (List.take_sublist 4 l).trans hs, by rw [List.length_take]; omega, kd⟩
  have c4 : cutD (l.map fun (i : Nat) => .int (i : Int)) none (some 4) = (l.take 4).map fun (i : Nat) => .int (i : Int) := by
    rw [List.map_take]
    exact cut_to _ 4
  have hl : (l.take 4).length < 64 := by rw [List.length_take]; omega
  have hp : ((l.take 4).map fun (i : Nat) => (i : Int)).Pairwise (· ≤ ·) := by
    have h1 : (l.take 4).Pairwise (· < ·) := ((List.pairwise_lt_range (n := m)).sublist hs).sublist (List.take_sublist 4 l)
    refine List.pairwise_map.mpr (h1.imp fun {a b} hab => ?_)
    omega
  have hso := sortI_id hp
  have hi := ints_map (l.take 4)
  generalize l.take 4 = l4 at *
  unfold o1__law_drawn
  simp [gOf, noX, runF, endF, outOf, moN, start0, evSs, evS, evE, evEs, evP, evIf, evI, evTg, evTgs, evVar, evTake, evFrz, evLit, litD, evD, evBin, evUn, Res.bind, fin, rvD, asB, evB, evNot, evIte, evBlV, evAll, rvDs, valDs, evMk, mkTup, mkLst, evCallB, evMeth, evPart, evNoPart, evSl, intOf, intD, evChain, cmpI, evApp, evPop, evPop0, splitRs, putOut, evUser, evIter, srcOf, evSrc, lstOf, rng1_ok, rng2_ok, enum1, zip2, xSeq, xNil, xSet, xOwn, xAsg, xExpr, xRet, xIf, xPar, binG, cmpG, gAdd, gSub, gMul, gDiv, gMod, gPow, gNeg, gIdx, gSl, biG, gIsi, isTy, gCmpI, tgName, tgSub, tgTup, tgsCons, tgsNil, Tgs.len, CEs.len, locAt, Sl.loc, setC, evYes, evNone, ixN, smallB_ok, posB_ok, wipeF, wipeOk, wipeAt, backAt, gEq_int, gNe_int, gEq_str, gNe_str, gEq_bool, gNe_bool, gIs, gIsNot, isNon, lenD, meT, tyD_str, tyD_list, ati0, ati1, ati2, ati3, e, c4, hl, hi, hso]
def Rel (k : Str) (f : Int) : Nat → List Nat → List D → Prop
  | _, [], ss => ss = []
  | i, p :: r, ss => ∃ s ss', ss = s :: ss' ∧ s ∈ stAt k p ∧ ((i : Int) = f → isH s = true) ∧ Rel k f (i + 1) r ss'
def Q1 (d : D) (mo : Int) (y2 : Sl) (m : Nat) (k : Str) (pl : List Nat) (f : Int) (y8 y10 : Sl) : Fr := [.mu d, .val (.int mo), y2, .val (.int m), .val (.str k), .val (.list (pl.map fun (i : Nat) => .int (i : Int))), .un, .val (.int f), y8, .un, y10]
theorem t_sts {n m : Nat} {d : D} {k : Str} {mo f : Int} {pl : List Nat} {y2 y8 y10 : Option D} (h : Dk n d) (hn : n < 700000000) (hk : k ∈ KS) (hpl : pl.length ≤ 4) : ∃ (ss : List D) (d' : D), evE c2__law_drawn (Q1 d mo (ov y2) m k pl f (ov y8) (ov y10)) = .ok (.val (.list ss) true) (Q1 d' mo (ov y2) m k pl f (ov y8) (ov y10)) ∧ Rel k f 0 pl ss ∧ Dk (n + 24) d' := by
  have key : ∀ (r : List Nat) (i n : Nat) (d : D), Dk n d → n + 6 * r.length < 800000000 → ∃ (ss : List D) (d' : D), Rel k f i r ss ∧ Dk (n + 6 * r.length) d' ∧
      compGo [9, 6] (evTg (.tup (.cons (.name 9) (.cons (.name 6) .nil)))) (evIf .nil) (evE (.call "_law_station" 4 g__law_station (.cons (.var 0) (.cons (.var 6) (.cons (.var 4) (.cons (.cmp .Eq (.var 9) (.var 7)) .nil)))))) (enumFrom i (r.map fun (i : Nat) => .int (i : Int))) (Q1 d mo (ov y2) m k pl f (ov y8) (ov y10)) = .ok ss (Q1 d' mo (ov y2) m k pl f (ov y8) (ov y10)) := by
    intro r
    induction r with
    | nil => exact fun i n d hd _ => ⟨[], d, rfl, hd, rfl⟩
    | cons p r ih =>
      intro i n d hd hl
      rw [List.length_cons] at hl
      obtain ⟨s, d1, e1, hs, hh, k1⟩ := t_station (p := p) (least := (i : Int) == f) hd (by omega) hk
      obtain ⟨ss, d', hr, kd, e⟩ := ih (i + 1) (n + 6) d1 k1 (by omega)
      let Y (d : D) : Fr := [.mu d, .val (.int mo), ov y2, .val (.int m), .val (.str k), .val (.list (pl.map fun (i : Nat) => .int (i : Int))), .val (.int p), .val (.int f), ov y8, .val (.int i), ov y10]
      have t1 : evTg (.tup (.cons (.name 9) (.cons (.name 6) .nil))) (.tuple [.int i, .int p]) (Q1 d mo (ov y2) m k pl f (ov y8) (ov y10)) = .ok () (Y d) := by simp [Q1, Y, gOf, noX, runF, endF, outOf, moN, start0, evSs, evS, evE, evEs, evP, evIf, evI, evTg, evTgs, evVar, evTake, evFrz, evLit, litD, evD, evBin, evUn, Res.bind, fin, rvD, asB, evB, evNot, evIte, evBlV, evAll, rvDs, valDs, evMk, mkTup, mkLst, evCallB, evMeth, evPart, evNoPart, evSl, intOf, intD, evChain, cmpI, evApp, evPop, evPop0, splitRs, putOut, evUser, evIter, srcOf, evSrc, lstOf, rng1_ok, rng2_ok, enum1, zip2, xSeq, xNil, xSet, xOwn, xAsg, xExpr, xRet, xIf, xPar, binG, cmpG, gAdd, gSub, gMul, gDiv, gMod, gPow, gNeg, gIdx, gSl, biG, gIsi, isTy, gCmpI, tgName, tgSub, tgTup, tgsCons, tgsNil, Tgs.len, CEs.len, locAt, Sl.loc, setC, evYes, evNone, ixN, smallB_ok, posB_ok, wipeF, wipeOk, wipeAt, backAt, gEq_int, gNe_int, gEq_str, gNe_str, gEq_bool, gNe_bool, gIs, gIsNot, isNon, lenD, meT, tyD_str, tyD_list, ati0, ati1, ati2, ati3]
      have t2 : evIf .nil (Y d) = .ok true (Y d) := rfl
      have t3 : evE (.call "_law_station" 4 g__law_station (.cons (.var 0) (.cons (.var 6) (.cons (.var 4) (.cons (.cmp .Eq (.var 9) (.var 7)) .nil))))) (Y d) = .ok (.val s false) (Y d1) := by
        obtain ⟨a, b, c, rfl, _⟩ := hd
        obtain ⟨a1, b1, c1, rfl, _⟩ := k1
        simp [Y, gOf, noX, runF, endF, outOf, moN, start0, evSs, evS, evE, evEs, evP, evIf, evI, evTg, evTgs, evVar, evTake, evFrz, evLit, litD, evD, evBin, evUn, Res.bind, fin, rvD, asB, evB, evNot, evIte, evBlV, evAll, rvDs, valDs, evMk, mkTup, mkLst, evCallB, evMeth, evPart, evNoPart, evSl, intOf, intD, evChain, cmpI, evApp, evPop, evPop0, splitRs, putOut, evUser, evIter, srcOf, evSrc, lstOf, rng1_ok, rng2_ok, enum1, zip2, xSeq, xNil, xSet, xOwn, xAsg, xExpr, xRet, xIf, xPar, binG, cmpG, gAdd, gSub, gMul, gDiv, gMod, gPow, gNeg, gIdx, gSl, biG, gIsi, isTy, gCmpI, tgName, tgSub, tgTup, tgsCons, tgsNil, Tgs.len, CEs.len, locAt, Sl.loc, setC, evYes, evNone, ixN, smallB_ok, posB_ok, wipeF, wipeOk, wipeAt, backAt, gEq_int, gNe_int, gEq_str, gNe_str, gEq_bool, gNe_bool, gIs, gIsNot, isNon, lenD, meT, tyD_str, tyD_list, ati0, ati1, ati2, ati3, e1]
      have t4 : wipeF [9, 6] (Y d1) = some (Q1 d1 mo (ov y2) m k pl f (ov y8) (ov y10)) := by
        cases y2 <;> cases y8 <;> cases y10 <;> simp [Q1, Y, gOf, noX, runF, endF, outOf, moN, start0, evSs, evS, evE, evEs, evP, evIf, evI, evTg, evTgs, evVar, evTake, evFrz, evLit, litD, evD, evBin, evUn, Res.bind, fin, rvD, asB, evB, evNot, evIte, evBlV, evAll, rvDs, valDs, evMk, mkTup, mkLst, evCallB, evMeth, evPart, evNoPart, evSl, intOf, intD, evChain, cmpI, evApp, evPop, evPop0, splitRs, putOut, evUser, evIter, srcOf, evSrc, lstOf, rng1_ok, rng2_ok, enum1, zip2, xSeq, xNil, xSet, xOwn, xAsg, xExpr, xRet, xIf, xPar, binG, cmpG, gAdd, gSub, gMul, gDiv, gMod, gPow, gNeg, gIdx, gSl, biG, gIsi, isTy, gCmpI, tgName, tgSub, tgTup, tgsCons, tgsNil, Tgs.len, CEs.len, locAt, Sl.loc, setC, evYes, evNone, ixN, smallB_ok, posB_ok, wipeF, wipeOk, wipeAt, backAt, gEq_int, gNe_int, gEq_str, gNe_str, gEq_bool, gNe_bool, gIs, gIsNot, isNon, lenD, meT, tyD_str, tyD_list, ati0, ati1, ati2, ati3, ov]
      refine ⟨s :: ss, d', ⟨s, ss, rfl, hs, fun z => hh (by simpa using z), hr⟩, by rw [List.length_cons]; exact kd.mono (by omega), ?_⟩
      rw [List.map_cons]
      unfold enumFrom compGo
      rw [t1]; simp only
      rw [t2]; simp only
      rw [t3]; simp only
      rw [t4]; simp only
      rw [e]
  obtain ⟨ss, d', hr, kd, e⟩ := key pl 0 n d h (by omega)
  refine ⟨ss, d', ?_, hr, kd.mono (by omega)⟩
  unfold c2__law_drawn
  refine comp_ev (ds := enumFrom 0 (pl.map fun (i : Nat) => .int (i : Int))) (en1 := Q1 d mo (ov y2) m k pl f (ov y8) (ov y10)) (en2 := Q1 d mo (ov y2) m k pl f (ov y8) (ov y10)) (by simp [Q1, gOf, noX, runF, endF, outOf, moN, start0, evSs, evS, evE, evEs, evP, evIf, evI, evTg, evTgs, evVar, evTake, evFrz, evLit, litD, evD, evBin, evUn, Res.bind, fin, rvD, asB, evB, evNot, evIte, evBlV, evAll, rvDs, valDs, evMk, mkTup, mkLst, evCallB, evMeth, evPart, evNoPart, evSl, intOf, intD, evChain, cmpI, evApp, evPop, evPop0, splitRs, putOut, evUser, evIter, srcOf, evSrc, lstOf, rng1_ok, rng2_ok, enum1, zip2, xSeq, xNil, xSet, xOwn, xAsg, xExpr, xRet, xIf, xPar, binG, cmpG, gAdd, gSub, gMul, gDiv, gMod, gPow, gNeg, gIdx, gSl, biG, gIsi, isTy, gCmpI, tgName, tgSub, tgTup, tgsCons, tgsNil, Tgs.len, CEs.len, locAt, Sl.loc, setC, evYes, evNone, ixN, smallB_ok, posB_ok, wipeF, wipeOk, wipeAt, backAt, gEq_int, gNe_int, gEq_str, gNe_str, gEq_bool, gNe_bool, gIs, gIsNot, isNon, lenD, meT, tyD_str, tyD_list, ati0, ati1, ati2, ati3]) ?_ (by rw [enum_len, List.length_map]; exact Nat.le_trans hpl (by decide)) e ?_
  · cases y2 <;> cases y8 <;> cases y10 <;> simp [Q1, gOf, noX, runF, endF, outOf, moN, start0, evSs, evS, evE, evEs, evP, evIf, evI, evTg, evTgs, evVar, evTake, evFrz, evLit, litD, evD, evBin, evUn, Res.bind, fin, rvD, asB, evB, evNot, evIte, evBlV, evAll, rvDs, valDs, evMk, mkTup, mkLst, evCallB, evMeth, evPart, evNoPart, evSl, intOf, intD, evChain, cmpI, evApp, evPop, evPop0, splitRs, putOut, evUser, evIter, srcOf, evSrc, lstOf, rng1_ok, rng2_ok, enum1, zip2, xSeq, xNil, xSet, xOwn, xAsg, xExpr, xRet, xIf, xPar, binG, cmpG, gAdd, gSub, gMul, gDiv, gMod, gPow, gNeg, gIdx, gSl, biG, gIsi, isTy, gCmpI, tgName, tgSub, tgTup, tgsCons, tgsNil, Tgs.len, CEs.len, locAt, Sl.loc, setC, evYes, evNone, ixN, smallB_ok, posB_ok, wipeF, wipeOk, wipeAt, backAt, gEq_int, gNe_int, gEq_str, gNe_str, gEq_bool, gNe_bool, gIs, gIsNot, isNon, lenD, meT, tyD_str, tyD_list, ati0, ati1, ati2, ati3, ov]
  · simp [Q1, gOf, noX, runF, endF, outOf, moN, start0, evSs, evS, evE, evEs, evP, evIf, evI, evTg, evTgs, evVar, evTake, evFrz, evLit, litD, evD, evBin, evUn, Res.bind, fin, rvD, asB, evB, evNot, evIte, evBlV, evAll, rvDs, valDs, evMk, mkTup, mkLst, evCallB, evMeth, evPart, evNoPart, evSl, intOf, intD, evChain, cmpI, evApp, evPop, evPop0, splitRs, putOut, evUser, evIter, srcOf, evSrc, lstOf, rng1_ok, rng2_ok, enum1, zip2, xSeq, xNil, xSet, xOwn, xAsg, xExpr, xRet, xIf, xPar, binG, cmpG, gAdd, gSub, gMul, gDiv, gMod, gPow, gNeg, gIdx, gSl, biG, gIsi, isTy, gCmpI, tgName, tgSub, tgTup, tgsCons, tgsNil, Tgs.len, CEs.len, locAt, Sl.loc, setC, evYes, evNone, ixN, smallB_ok, posB_ok, wipeF, wipeOk, wipeAt, backAt, gEq_int, gNe_int, gEq_str, gNe_str, gEq_bool, gNe_bool, gIs, gIsNot, isNon, lenD, meT, tyD_str, tyD_list, ati0, ati1, ati2, ati3, ov]
theorem rel_len {k : Str} {f : Int} : ∀ {pl : List Nat} {i : Nat} {ss : List D}, Rel k f i pl ss → ss.length = pl.length
  | [], _, _, h => by rw [show _ = [] from h]; rfl
  | p :: r, i, _, ⟨s, ss, rfl, _, _, h⟩ => by rw [List.length_cons, List.length_cons, rel_len h]
theorem rel_mem {k : Str} {f : Int} : ∀ {pl : List Nat} {i : Nat} {ss : List D} {s : D}, Rel k f i pl ss → s ∈ ss → ∃ p ∈ pl, s ∈ stAt k p
  | [], _, _, s, h, hs => by rw [show _ = [] from h] at hs; cases hs
  | p :: r, i, _, s, ⟨x, ss, rfl, hx, _, h⟩, hs => by
    rcases List.mem_cons.mp hs with rfl | hs
    · exact ⟨p, List.mem_cons_self .., hx⟩
    · obtain ⟨q, hq, h2⟩ := rel_mem h hs
      exact ⟨q, List.mem_cons_of_mem _ hq, h2⟩
theorem rel_up {k : Str} {f : Int} {m : Nat} (hk : k ∈ KS) (h2 : 2 ≤ m) (h5 : m ≤ 5) : ∀ {pl : List Nat} {i : Nat} {ss : List D}, Rel k f i pl ss → (∀ p ∈ pl, p < m) → pl.Pairwise (· < ·) → ss.Pairwise fun a b => plc a < plc b
  | [], _, _, h, _, _ => by rw [show _ = [] from h]; exact .nil
  | p :: r, i, _, ⟨s, ss, rfl, hs, _, h⟩, hm, hp => by
    have hp' := List.pairwise_cons.mp hp
    refine List.pairwise_cons.mpr ⟨fun t ht => ?_, rel_up hk h2 h5 h (fun q hq => hm q (List.mem_cons_of_mem _ hq)) hp'.2⟩
    obtain ⟨q, hq, h3⟩ := rel_mem h ht
    have e1 := (st_f hk h2 h5 (hm p (List.mem_cons_self ..)) hs).2
    have e2 := (st_f hk h2 h5 (hm q (List.mem_cons_of_mem _ hq)) h3).2
    have := hp'.1 q hq
    omega
theorem rel_any {k : Str} {f : Int} : ∀ {pl : List Nat} {i : Nat} {ss : List D}, Rel k f i pl ss → (i : Int) ≤ f → f < i + pl.length → ss.any isH = true
  | [], i, _, h, h1, h2 => by simp at h2; omega
  | p :: r, i, _, ⟨s, ss, rfl, hs, hh, h⟩, h1, h2 => by
    rw [List.any_cons, Bool.or_eq_true]
    by_cases e : (i : Int) = f
    · exact .inl (hh e)
    · refine .inr (rel_any h (by omega) ?_)
      rw [List.length_cons] at h2
      omega
end Mi
set_option Elab.async false
set_option linter.all false
set_option maxRecDepth 100000
set_option autoImplicit false
namespace Mi
open PySem PySem.Spec L2
theorem shp : ∀ (l : List Nat), SeqAt.shaped (.list (l.map fun (i : Nat) => .int (i : Int))) = true := by
  intro l
  unfold SeqAt.shaped
  rw [Bool.and_eq_true, decide_eq_true_eq]
  constructor
  · unfold PyData.canLay0
    induction l with
    | nil => rfl
    | cons a r ih =>
      rw [List.map_cons]
      unfold PyData.canLayAll0
      rw [Bool.and_eq_true]
      exact ⟨rfl, ih⟩
  · have key : ∀ l : List Nat, PyData.depthAll (l.map fun (i : Nat) => PyData.int (i : Int)) ≤ 1 := fun l => by
      induction l with
      | nil => decide
      | cons a r ih =>
        rw [List.map_cons]
        unfold PyData.depthAll
        have : (PyData.int (a : Int)).depth ≤ 1 := by unfold PyData.depth; omega
        omega
    have h2 := key l
    unfold PyData.depth
    omega
theorem ne_nil (l : List Nat) : gNe (.list (l.map fun (i : Nat) => .int (i : Int))) (.list []) = some (.bool (!l.isEmpty), false) := by
  unfold gNe eqB
  rw [shp l, show SeqAt.shaped (.list []) = true from rfl]
  cases l with
  | nil => rfl
  | cons a r => rfl
def FT (d : D) (mo : Int) (t : D) : Option (D × D × D × D × D × D) → Fr
  | none => [.mu d, .val (.int mo), .val t, .un, .un, .un, .un, .un, .un, .un, .un]
  | some (a, b, c, e, f, g) => [.mu d, .val (.int mo), .val t, .val a, .val b, .val c, .un, .val e, .val f, .un, .val g]
theorem t_turn {n : Nat} {d : D} {mo : Int} {t : D} {Y : Option (D × D × D × D × D × D)} (h : Dk n d) (hn : n < 600000000) (hmo : mo ≤ 3000) : ∃ d', Dk (n + 100) d' ∧ ((∃ Y', evSs q1__law_drawn (FT d mo t Y) = .nx (FT d' mo t (some Y'))) ∨
    ∃ m k ss en', Blt m k ss ∧ prd m k ss ≤ 3000 ∧ evSs q1__law_drawn (FT d mo t Y) = .ret (.val (bl m k ss) false) en' ∧ en'[0]? = some (.mu d')) := by
  obtain ⟨r, d1, e1, r0, r1, k1⟩ := t_pick (s := 4) h (by omega) (by decide) (by decide)
  obtain ⟨y, d2, e2, hy, k2⟩ := t_one (ds := [.str "a", .str "a", .str "ab", .str "ab", .str "abc"]) k1 (by omega) (by simp) (by simp)
  obtain ⟨k, rfl, hk⟩ : ∃ k, y = .str k ∧ k ∈ KS := by
    simp at hy
    rcases hy with rfl | rfl | rfl
    · exact ⟨_, rfl, by simp [KS]⟩
    · exact ⟨_, rfl, by simp [KS]⟩
    · exact ⟨_, rfl, by simp [KS]⟩
  obtain ⟨rn, rfl⟩ : ∃ rn : Nat, r = rn := ⟨r.toNat, by omega⟩
  generalize hm : 2 + rn = m at *
  have hm2 : 2 ≤ m := by omega
  have hm5 : m ≤ 5 := by omega
  have hmi : (2 : Int) + rn = m := by omega
  obtain ⟨l, d3, e3, hs, hl4, k3⟩ := t_pl4 (m := m) (k := k) (mo := mo) (y2 := some t) (y5 := Y.map fun Y => Y.2.2.1) (y7 := Y.map fun Y => Y.2.2.2.1) (y8 := Y.map fun Y => Y.2.2.2.2.1) (y10 := Y.map fun Y => Y.2.2.2.2.2) k2 (by omega) hm5
  obtain ⟨M, hM, hM1, hM2⟩ : ∃ M : Int, M = (if (1 : Int) < l.length then (l.length : Int) else 1) ∧ 0 < M ∧ (l ≠ [] → M = l.length) := by
    refine ⟨_, rfl, ?_, fun h => ?_⟩
    · split <;> omega
    · have := List.length_pos_iff.mpr h
      split <;> omega
  obtain ⟨f, d4, e4, f0, f1, k4⟩ := t_pick (s := M) k3 (by omega) hM1 (by rw [hM]; split <;> omega)
  obtain ⟨ss, d5, e5, hr, k5⟩ := t_sts (m := m) (k := k) (mo := mo) (f := f) (pl := l) (y2 := some t) (y8 := Y.map fun Y => Y.2.2.2.2.1) (y10 := Y.map fun Y => Y.2.2.2.2.2) k4 (by omega) hk hl4
  have hlt : ∀ p ∈ l, p < m := fun p hp => List.mem_range.mp (hs.subset hp)
  have hup : l.Pairwise (· < ·) := (List.pairwise_lt_range (n := m)).sublist hs
  have hB : l ≠ [] → Blt m k ss := fun hne => ⟨hk, hm2, hm5, fun z => by
      have h1 := rel_len hr
      rw [z] at h1
      exact hne (List.length_eq_zero_iff.mp h1.symm), by rw [rel_len hr]; exact hl4, fun s hs => by
      obtain ⟨p, hp, h3⟩ := rel_mem hr hs
      exact (st_f hk hm2 hm5 (hlt p hp) h3).1, rel_up hk hm2 hm5 hr hlt hup, rel_any hr f0 (by rw [hM2 hne] at f1; omega)⟩
  have hne := ne_nil l
  have kk : Dk (n + 100) d5 := k5.mono (by omega)
  have sl : ss.length ≤ most := by rw [rel_len hr]; exact Nat.le_trans hl4 (by decide)
  have ll : l.length ≤ most := Nat.le_trans hl4 (by decide)
  obtain ⟨_, _, _, rfl, _⟩ := h
  obtain ⟨_, _, _, rfl, _⟩ := k1
  obtain ⟨_, _, _, rfl, _⟩ := k2
  obtain ⟨_, _, _, rfl, _⟩ := k3
  obtain ⟨_, _, _, rfl, _⟩ := k4
  obtain ⟨_, _, _, rfl, _⟩ := k5
  simp only [Q0, Q1] at e3 e5
  by_cases hl0 : l = []
  · have em : l.isEmpty = true := by rw [hl0]; rfl
    refine ⟨_, kk, .inl ⟨(.int m, .str k, .list (l.map fun (i : Nat) => .int (i : Int)), .int f, .list ss, bl m k ss), ?_⟩⟩
    rw [em] at hne
    cases Y with
    | none =>
      simp [ov] at e3 e5
      simp [FT, q1__law_drawn, gOf, noX, runF, endF, outOf, moN, start0, evSs, evS, evE, evEs, evP, evIf, evI, evTg, evTgs, evVar, evTake, evFrz, evLit, litD, evD, evBin, evUn, Res.bind, fin, rvD, asB, evB, evNot, evIte, evBlV, evAll, rvDs, valDs, evMk, mkTup, mkLst, evCallB, evMeth, evPart, evNoPart, evSl, intOf, intD, evChain, cmpI, evApp, evPop, evPop0, splitRs, putOut, evUser, evIter, srcOf, evSrc, lstOf, rng1_ok, rng2_ok, enum1, zip2, xSeq, xNil, xSet, xOwn, xAsg, xExpr, xRet, xIf, xPar, binG, cmpG, gAdd, gSub, gMul, gDiv, gMod, gPow, gNeg, gIdx, gSl, biG, gIsi, isTy, gCmpI, tgName, tgSub, tgTup, tgsCons, tgsNil, Tgs.len, CEs.len, locAt, Sl.loc, setC, evYes, evNone, ixN, smallB_ok, posB_ok, wipeF, wipeOk, wipeAt, backAt, gEq_int, gNe_int, gEq_str, gNe_str, gEq_bool, gNe_bool, gIs, gIsNot, isNon, lenD, meT, tyD_str, tyD_list, ati0, ati1, ati2, ati3, e1, e2, hmi, e3, ll, ← hM, e4, e5, hne, bl]
    | some Y =>
      obtain ⟨y1, y2, y3, y4, y5, y6⟩ := Y
      simp [ov] at e3 e5
      simp [FT, q1__law_drawn, gOf, noX, runF, endF, outOf, moN, start0, evSs, evS, evE, evEs, evP, evIf, evI, evTg, evTgs, evVar, evTake, evFrz, evLit, litD, evD, evBin, evUn, Res.bind, fin, rvD, asB, evB, evNot, evIte, evBlV, evAll, rvDs, valDs, evMk, mkTup, mkLst, evCallB, evMeth, evPart, evNoPart, evSl, intOf, intD, evChain, cmpI, evApp, evPop, evPop0, splitRs, putOut, evUser, evIter, srcOf, evSrc, lstOf, rng1_ok, rng2_ok, enum1, zip2, xSeq, xNil, xSet, xOwn, xAsg, xExpr, xRet, xIf, xPar, binG, cmpG, gAdd, gSub, gMul, gDiv, gMod, gPow, gNeg, gIdx, gSl, biG, gIsi, isTy, gCmpI, tgName, tgSub, tgTup, tgsCons, tgsNil, Tgs.len, CEs.len, locAt, Sl.loc, setC, evYes, evNone, ixN, smallB_ok, posB_ok, wipeF, wipeOk, wipeAt, backAt, gEq_int, gNe_int, gEq_str, gNe_str, gEq_bool, gNe_bool, gIs, gIsNot, isNon, lenD, meT, tyD_str, tyD_list, ati0, ati1, ati2, ati3, e1, e2, hmi, e3, ll, ← hM, e4, e5, hne, bl]
  · have em : l.isEmpty = false := by
      cases l with
      | nil => exact absurd rfl hl0
      | cons _ _ => rfl
    rw [em] at hne
    have hb := hB hl0
    have hq := t_lprod hb
    simp only [bl] at hq
    by_cases hp : prd m k ss ≤ mo
    · refine ⟨_, kk, .inr ⟨m, k, ss, FT _ mo t (some (.int m, .str k, .list (l.map fun (i : Nat) => .int (i : Int)), .int f, .list ss, bl m k ss)), hb, by omega, ?_, rfl⟩⟩
      cases Y with
      | none =>
        simp [ov] at e3 e5
        simp [FT, q1__law_drawn, gOf, noX, runF, endF, outOf, moN, start0, evSs, evS, evE, evEs, evP, evIf, evI, evTg, evTgs, evVar, evTake, evFrz, evLit, litD, evD, evBin, evUn, Res.bind, fin, rvD, asB, evB, evNot, evIte, evBlV, evAll, rvDs, valDs, evMk, mkTup, mkLst, evCallB, evMeth, evPart, evNoPart, evSl, intOf, intD, evChain, cmpI, evApp, evPop, evPop0, splitRs, putOut, evUser, evIter, srcOf, evSrc, lstOf, rng1_ok, rng2_ok, enum1, zip2, xSeq, xNil, xSet, xOwn, xAsg, xExpr, xRet, xIf, xPar, binG, cmpG, gAdd, gSub, gMul, gDiv, gMod, gPow, gNeg, gIdx, gSl, biG, gIsi, isTy, gCmpI, tgName, tgSub, tgTup, tgsCons, tgsNil, Tgs.len, CEs.len, locAt, Sl.loc, setC, evYes, evNone, ixN, smallB_ok, posB_ok, wipeF, wipeOk, wipeAt, backAt, gEq_int, gNe_int, gEq_str, gNe_str, gEq_bool, gNe_bool, gIs, gIsNot, isNon, lenD, meT, tyD_str, tyD_list, ati0, ati1, ati2, ati3, e1, e2, hmi, e3, ll, ← hM, e4, e5, hne, bl, hq, hp]
      | some Y =>
        obtain ⟨y1, y2, y3, y4, y5, y6⟩ := Y
        simp [ov] at e3 e5
        simp [FT, q1__law_drawn, gOf, noX, runF, endF, outOf, moN, start0, evSs, evS, evE, evEs, evP, evIf, evI, evTg, evTgs, evVar, evTake, evFrz, evLit, litD, evD, evBin, evUn, Res.bind, fin, rvD, asB, evB, evNot, evIte, evBlV, evAll, rvDs, valDs, evMk, mkTup, mkLst, evCallB, evMeth, evPart, evNoPart, evSl, intOf, intD, evChain, cmpI, evApp, evPop, evPop0, splitRs, putOut, evUser, evIter, srcOf, evSrc, lstOf, rng1_ok, rng2_ok, enum1, zip2, xSeq, xNil, xSet, xOwn, xAsg, xExpr, xRet, xIf, xPar, binG, cmpG, gAdd, gSub, gMul, gDiv, gMod, gPow, gNeg, gIdx, gSl, biG, gIsi, isTy, gCmpI, tgName, tgSub, tgTup, tgsCons, tgsNil, Tgs.len, CEs.len, locAt, Sl.loc, setC, evYes, evNone, ixN, smallB_ok, posB_ok, wipeF, wipeOk, wipeAt, backAt, gEq_int, gNe_int, gEq_str, gNe_str, gEq_bool, gNe_bool, gIs, gIsNot, isNon, lenD, meT, tyD_str, tyD_list, ati0, ati1, ati2, ati3, e1, e2, hmi, e3, ll, ← hM, e4, e5, hne, bl, hq, hp]
    · refine ⟨_, kk, .inl ⟨(.int m, .str k, .list (l.map fun (i : Nat) => .int (i : Int)), .int f, .list ss, bl m k ss), ?_⟩⟩
      cases Y with
      | none =>
        simp [ov] at e3 e5
        simp [FT, q1__law_drawn, gOf, noX, runF, endF, outOf, moN, start0, evSs, evS, evE, evEs, evP, evIf, evI, evTg, evTgs, evVar, evTake, evFrz, evLit, litD, evD, evBin, evUn, Res.bind, fin, rvD, asB, evB, evNot, evIte, evBlV, evAll, rvDs, valDs, evMk, mkTup, mkLst, evCallB, evMeth, evPart, evNoPart, evSl, intOf, intD, evChain, cmpI, evApp, evPop, evPop0, splitRs, putOut, evUser, evIter, srcOf, evSrc, lstOf, rng1_ok, rng2_ok, enum1, zip2, xSeq, xNil, xSet, xOwn, xAsg, xExpr, xRet, xIf, xPar, binG, cmpG, gAdd, gSub, gMul, gDiv, gMod, gPow, gNeg, gIdx, gSl, biG, gIsi, isTy, gCmpI, tgName, tgSub, tgTup, tgsCons, tgsNil, Tgs.len, CEs.len, locAt, Sl.loc, setC, evYes, evNone, ixN, smallB_ok, posB_ok, wipeF, wipeOk, wipeAt, backAt, gEq_int, gNe_int, gEq_str, gNe_str, gEq_bool, gNe_bool, gIs, gIsNot, isNon, lenD, meT, tyD_str, tyD_list, ati0, ati1, ati2, ati3, e1, e2, hmi, e3, ll, ← hM, e4, e5, hne, bl, hq, hp]
      | some Y =>
        obtain ⟨y1, y2, y3, y4, y5, y6⟩ := Y
        simp [ov] at e3 e5
        simp [FT, q1__law_drawn, gOf, noX, runF, endF, outOf, moN, start0, evSs, evS, evE, evEs, evP, evIf, evI, evTg, evTgs, evVar, evTake, evFrz, evLit, litD, evD, evBin, evUn, Res.bind, fin, rvD, asB, evB, evNot, evIte, evBlV, evAll, rvDs, valDs, evMk, mkTup, mkLst, evCallB, evMeth, evPart, evNoPart, evSl, intOf, intD, evChain, cmpI, evApp, evPop, evPop0, splitRs, putOut, evUser, evIter, srcOf, evSrc, lstOf, rng1_ok, rng2_ok, enum1, zip2, xSeq, xNil, xSet, xOwn, xAsg, xExpr, xRet, xIf, xPar, binG, cmpG, gAdd, gSub, gMul, gDiv, gMod, gPow, gNeg, gIdx, gSl, biG, gIsi, isTy, gCmpI, tgName, tgSub, tgTup, tgsCons, tgsNil, Tgs.len, CEs.len, locAt, Sl.loc, setC, evYes, evNone, ixN, smallB_ok, posB_ok, wipeF, wipeOk, wipeAt, backAt, gEq_int, gNe_int, gEq_str, gNe_str, gEq_bool, gNe_bool, gIs, gIsNot, isNon, lenD, meT, tyD_str, tyD_list, ati0, ati1, ati2, ati3, e1, e2, hmi, e3, ll, ← hM, e4, e5, hne, bl, hq, hp]
def GB (b : D) : Prop := ∃ m k ss, b = bl m k ss ∧ Blt m k ss ∧ prd m k ss ≤ 3000
theorem fall_bk (r r2 : Int) (h : r = 0 ∨ r = 1) (h2 : r2 = 0 ∨ r2 = 1) : GB (.tuple [.int 3, .str "a", .tuple [.tuple [.str "hatch", .int r, .str "eager"], .tuple [.str "picker", .int 2, .str "a", .int r2]]]) := by
  have hk : (Str.ofString "a") ∈ KS := by simp [KS]
  have hw : (Str.ofString "a") ∈ wds "a" := by decide +kernel
  have hr : (Str.ofString "eager") ∈ rls := by simp [rls]
  have key : ∀ (p : Nat) (b : Int), p < 2 → b ∈ [(0 : Int), 1, 2] → prd 3 "a" [hat p "eager", pik (2 : Nat) "a" b] ≤ 3000 → GB (.tuple [.int 3, .str "a", .tuple [.tuple [.str "hatch", .int p, .str "eager"], .tuple [.str "picker", .int 2, .str "a", .int b]]]) := fun p b hp hb hq => by
    have f1 := st_f hk (m := 3) (by omega) (by omega) (show p < 3 by omega) (hat_in hr)
    have f2 := st_f hk (m := 3) (by omega) (by omega) (show 2 < 3 by omega) (pik_in hw hb)
    refine ⟨3, "a", [hat p "eager", pik (2 : Nat) "a" b], rfl, ⟨hk, by omega, by omega, by simp, by simp, fun s hs => ?_, ?_, rfl⟩, hq⟩
    · simp at hs
      rcases hs with rfl | rfl
      · exact f1.1
      · exact f2.1
    · refine List.pairwise_cons.mpr ⟨fun s hs => ?_, List.pairwise_singleton _ _⟩
      rw [List.mem_singleton.mp hs, f1.2, f2.2]
      omega
  rcases h with rfl | rfl <;> rcases h2 with rfl | rfl
  · exact key 0 0 (by omega) (by simp) (by decide +kernel)
  · exact key 0 1 (by omega) (by simp) (by decide +kernel)
  · exact key 1 0 (by omega) (by simp) (by decide +kernel)
  · exact key 1 1 (by omega) (by simp) (by decide +kernel)
def FU (d : D) (mo : Int) (t : Option D) (Y : Option (D × D × D × D × D × D)) : Fr := match t with
  | some t => FT d mo t Y
  | none => match Y with
    | none => [.mu d, .val (.int mo), .un, .un, .un, .un, .un, .un, .un, .un, .un]
    | some (a, b, c, e, f, g) => [.mu d, .val (.int mo), .un, .val a, .val b, .val c, .un, .val e, .val f, .un, .val g]
theorem dr_loop {mo : Int} (hmo : mo ≤ 3000) : ∀ (ts : List D) (n : Nat) (d : D) (t : Option D) (Y : Option (D × D × D × D × D × D)), Dk n d → n + 100 * ts.length < 600000000 →
    (∃ d' t' Y', forGo (evTg (.name 2)) (evSs q1__law_drawn) ts (FU d mo t Y) = .nx (FU d' mo t' Y') ∧ Dk (n + 100 * ts.length) d') ∨
    ∃ m k ss en' d', Blt m k ss ∧ prd m k ss ≤ 3000 ∧ forGo (evTg (.name 2)) (evSs q1__law_drawn) ts (FU d mo t Y) = .ret (.val (bl m k ss) false) en' ∧ en'[0]? = some (.mu d') ∧ Dk (n + 100 * ts.length) d'
  | [], n, d, t, Y, h, _ => .inl ⟨d, t, Y, rfl, h⟩
  | x :: ts, n, d, t, Y, h, hl => by
    rw [List.length_cons] at hl
    have e1 : evTg (.name 2) x (FU d mo t Y) = .ok () (FT d mo x Y) := by
      cases t <;> cases Y <;> simp [FU, FT, gOf, noX, runF, endF, outOf, moN, start0, evSs, evS, evE, evEs, evP, evIf, evI, evTg, evTgs, evVar, evTake, evFrz, evLit, litD, evD, evBin, evUn, Res.bind, fin, rvD, asB, evB, evNot, evIte, evBlV, evAll, rvDs, valDs, evMk, mkTup, mkLst, evCallB, evMeth, evPart, evNoPart, evSl, intOf, intD, evChain, cmpI, evApp, evPop, evPop0, splitRs, putOut, evUser, evIter, srcOf, evSrc, lstOf, rng1_ok, rng2_ok, enum1, zip2, xSeq, xNil, xSet, xOwn, xAsg, xExpr, xRet, xIf, xPar, binG, cmpG, gAdd, gSub, gMul, gDiv, gMod, gPow, gNeg, gIdx, gSl, biG, gIsi, isTy, gCmpI, tgName, tgSub, tgTup, tgsCons, tgsNil, Tgs.len, CEs.len, locAt, Sl.loc, setC, evYes, evNone, ixN, smallB_ok, posB_ok, wipeF, wipeOk, wipeAt, backAt, gEq_int, gNe_int, gEq_str, gNe_str, gEq_bool, gNe_bool, gIs, gIsNot, isNon, lenD, meT, tyD_str, tyD_list, ati0, ati1, ati2, ati3]
    obtain ⟨d1, k1, q⟩ := t_turn (mo := mo) (t := x) (Y := Y) h (by omega) hmo
    rcases q with ⟨Y', e2⟩ | ⟨m, k, ss, en', hb, hp, e2, e3⟩
    · have ih := dr_loop hmo ts (n + 100) d1 (some x) (some Y') k1 (by omega)
      have e4 : forGo (evTg (.name 2)) (evSs q1__law_drawn) (x :: ts) (FU d mo t Y) = forGo (evTg (.name 2)) (evSs q1__law_drawn) ts (FU d1 mo (some x) (some Y')) := by
        conv => lhs; unfold forGo
        rw [e1]; simp only
        rw [e2]
        rfl
      rw [e4, List.length_cons]
      rcases ih with ⟨d', t', Y2, h1, h2⟩ | ⟨m, k, ss, en', d', h1, h2, h3, h4, h5⟩
      · exact .inl ⟨d', t', Y2, h1, h2.mono (by omega)⟩
      · exact .inr ⟨m, k, ss, en', d', h1, h2, h3, h4, h5.mono (by omega)⟩
    · refine .inr ⟨m, k, ss, en', d1, hb, hp, ?_, e3, k1.mono (by rw [List.length_cons]; omega)⟩
      unfold forGo
      rw [e1]; simp only
      rw [e2]
theorem t_drawn {n : Nat} {d : D} {mo : Int} (h : Dk n d) (hn : n < 500000000) (hmo : mo ≤ 3000) : ∃ b d', g__law_drawn (some d) [.int mo] = .ok b false (some d') ∧ GB b ∧ Dk (n + 3000) d' := by
  have hl : (rngD 0 20).length = 20 := rfl
  have hq := dr_loop hmo (rngD 0 20) n d none none h (by rw [hl]; omega)
  have e0 : evS l1__law_drawn (FU d mo none none) = forGo (evTg (.name 2)) (evSs q1__law_drawn) (rngD 0 20) (FU d mo none none) := by
    unfold l1__law_drawn
    exact for_ev (by simp [FU, gOf, noX, runF, endF, outOf, moN, start0, evSs, evS, evE, evEs, evP, evIf, evI, evTg, evTgs, evVar, evTake, evFrz, evLit, litD, evD, evBin, evUn, Res.bind, fin, rvD, asB, evB, evNot, evIte, evBlV, evAll, rvDs, valDs, evMk, mkTup, mkLst, evCallB, evMeth, evPart, evNoPart, evSl, intOf, intD, evChain, cmpI, evApp, evPop, evPop0, splitRs, putOut, evUser, evIter, srcOf, evSrc, lstOf, rng1_ok, rng2_ok, enum1, zip2, xSeq, xNil, xSet, xOwn, xAsg, xExpr, xRet, xIf, xPar, binG, cmpG, gAdd, gSub, gMul, gDiv, gMod, gPow, gNeg, gIdx, gSl, biG, gIsi, isTy, gCmpI, tgName, tgSub, tgTup, tgsCons, tgsNil, Tgs.len, CEs.len, locAt, Sl.loc, setC, evYes, evNone, ixN, smallB_ok, posB_ok, wipeF, wipeOk, wipeAt, backAt, gEq_int, gNe_int, gEq_str, gNe_str, gEq_bool, gNe_bool, gIs, gIsNot, isNon, lenD, meT, tyD_str, tyD_list, ati0, ati1, ati2, ati3])
  rw [← e0, hl] at hq
  rcases hq with ⟨d', t', Y', e, kd⟩ | ⟨m, k, ss, en', d', hb, hp, e, e3, kd⟩
  · obtain ⟨r, d1, e1, r0, r1, k1⟩ := t_pick (s := 2) kd (by omega) (by decide) (by decide)
    obtain ⟨r2, d2, e2, r20, r21, k2⟩ := t_pick (s := 2) k1 (by omega) (by decide) (by decide)
    refine ⟨.tuple [.int 3, .str "a", .tuple [.tuple [.str "hatch", .int r, .str "eager"], .tuple [.str "picker", .int 2, .str "a", .int r2]]], d2, ?_, fall_bk r r2 (by omega) (by omega), k2.mono (by omega)⟩
    obtain ⟨_, _, _, rfl, _⟩ := h
    obtain ⟨_, _, _, rfl, _⟩ := kd
    obtain ⟨_, _, _, rfl, _⟩ := k1
    obtain ⟨_, _, _, rfl, _⟩ := k2
    cases t' <;> cases Y' <;> simp only [FU, FT] at e <;> simp [g__law_drawn, b__law_drawn, gOf, noX, runF, endF, outOf, moN, start0, evSs, evS, evE, evEs, evP, evIf, evI, evTg, evTgs, evVar, evTake, evFrz, evLit, litD, evD, evBin, evUn, Res.bind, fin, rvD, asB, evB, evNot, evIte, evBlV, evAll, rvDs, valDs, evMk, mkTup, mkLst, evCallB, evMeth, evPart, evNoPart, evSl, intOf, intD, evChain, cmpI, evApp, evPop, evPop0, splitRs, putOut, evUser, evIter, srcOf, evSrc, lstOf, rng1_ok, rng2_ok, enum1, zip2, xSeq, xNil, xSet, xOwn, xAsg, xExpr, xRet, xIf, xPar, binG, cmpG, gAdd, gSub, gMul, gDiv, gMod, gPow, gNeg, gIdx, gSl, biG, gIsi, isTy, gCmpI, tgName, tgSub, tgTup, tgsCons, tgsNil, Tgs.len, CEs.len, locAt, Sl.loc, setC, evYes, evNone, ixN, smallB_ok, posB_ok, wipeF, wipeOk, wipeAt, backAt, gEq_int, gNe_int, gEq_str, gNe_str, gEq_bool, gNe_bool, gIs, gIsNot, isNon, lenD, meT, tyD_str, tyD_list, ati0, ati1, ati2, ati3, e, e1, e2]
  · refine ⟨bl m k ss, d', ?_, ⟨m, k, ss, rfl, hb, hp⟩, kd.mono (by omega)⟩
    obtain ⟨_, _, _, rfl, _⟩ := h
    obtain ⟨_, _, _, rfl, _⟩ := kd
    simp only [FU] at e
    simp [g__law_drawn, b__law_drawn, gOf, noX, runF, endF, outOf, moN, start0, evSs, evS, evE, evEs, evP, evIf, evI, evTg, evTgs, evVar, evTake, evFrz, evLit, litD, evD, evBin, evUn, Res.bind, fin, rvD, asB, evB, evNot, evIte, evBlV, evAll, rvDs, valDs, evMk, mkTup, mkLst, evCallB, evMeth, evPart, evNoPart, evSl, intOf, intD, evChain, cmpI, evApp, evPop, evPop0, splitRs, putOut, evUser, evIter, srcOf, evSrc, lstOf, rng1_ok, rng2_ok, enum1, zip2, xSeq, xNil, xSet, xOwn, xAsg, xExpr, xRet, xIf, xPar, binG, cmpG, gAdd, gSub, gMul, gDiv, gMod, gPow, gNeg, gIdx, gSl, biG, gIsi, isTy, gCmpI, tgName, tgSub, tgTup, tgsCons, tgsNil, Tgs.len, CEs.len, locAt, Sl.loc, setC, evYes, evNone, ixN, smallB_ok, posB_ok, wipeF, wipeOk, wipeAt, backAt, gEq_int, gNe_int, gEq_str, gNe_str, gEq_bool, gNe_bool, gIs, gIsNot, isNon, lenD, meT, tyD_str, tyD_list, ati0, ati1, ati2, ati3, e, e3]
structure FB (b : D) (t : Str) : Prop where
  lt : g__law_text none [b] = .ok (.str t) false none
  bt : g_belt_text none [b] = .ok (.str t) false none
  s1 : g__law_same 4 none [.str t, .str t] = .ok (.bool true) false none
  rd : g_read_belt none [.str t] = .ok b false none
  s2 : g__law_same 4 none [b, b] = .ok (.bool true) false none
theorem fb_of {b : D} (h : GB b) : ∃ t, FB b t := by
  obtain ⟨m, k, ss, rfl, hb, hp⟩ := h
  have ts : Tme 3 (bl m k ss) := by
    have hm : ss.length ≤ most := Nat.le_trans hb.n4 (by decide)
    refine .tup (fun d hd => ?_) (by show 3 ≤ 16000000; decide)
    simp at hd
    rcases hd with rfl | rfl | rfl
    · exact .int _
    · exact .str _
    · refine .tup (fun d hd => ?_) hm
      rcases (hb.st d hd).sh with ⟨p, r, rfl, _⟩ | ⟨p, w, b, rfl, _⟩
      · refine .tup (fun d hd => ?_) (by show 3 ≤ 16000000; decide)
        simp at hd
        rcases hd with rfl | rfl | rfl
        · exact .str _
        · exact .int _
        · exact .str _
      · refine .tup (fun d hd => ?_) (by show 4 ≤ 16000000; decide)
        simp at hd
        rcases hd with rfl | rfl | rfl | rfl
        · exact .str _
        · exact .int _
        · exact .str _
        · exact .int _
  exact ⟨tx m k ss, t_ltext hb, t_btext hb hp, t_same (.str _), t_read hb hp, t_same ts⟩
def okC (b : D) : Bool := match g__law_text none [b] with
  | .ok (.str t) false none => gives (g_belt_text none [b]) (.str t) && gives (g__law_same 4 none [.str t, .str t]) (.bool true) && gives (g_read_belt none [.str t]) b && gives (g__law_same 4 none [b, b]) (.bool true)
  | _ => false
theorem okC_fb {b : D} (h : okC b = true) : ∃ t, FB b t := by
  unfold okC at h
  split at h
  · rename_i t e
    simp only [Bool.and_eq_true] at h
    obtain ⟨⟨⟨h1, h2⟩, h3⟩, h4⟩ := h
    exact ⟨t, e, gives_eq h1, gives_eq h2, gives_eq h3, gives_eq h4⟩
  · cases h
def six : D := .tuple [.int 6, .str "a", .tuple [.tuple [.str "hatch", .int 0, .str "gap"], .tuple [.str "picker", .int 5, .str "aaa", .int 2]]]
def kn : List D := match g__law_known none [] with
  | .ok (.list l) true none => l
  | _ => []
theorem kn_eq : g__law_known none [] = .ok (.list kn) true none := by rfl
theorem kn_ok : (six :: kn).all okC = true := by decide +kernel
theorem kn_len : kn.length = 4 := by decide +kernel
def FL (sc : D) (c : D) (d : D) (y4 y5 : Option D) : Fr := [.val sc, .val six, .val c, .own d, ov y4, ov y5]
theorem in_loop {sc c d : D} : ∀ (bs : List D) (y4 y5 : Option D), (∀ b ∈ bs, ∃ t, FB b t) → ∃ y4' y5', forGo (evTg (.name 4)) (evSs q1_law) bs (FL sc c d y4 y5) = .nx (FL sc c d y4' y5')
  | [], y4, y5, _ => ⟨y4, y5, rfl⟩
  | b :: bs, y4, y5, h => by
    obtain ⟨t, fb⟩ := h b (List.mem_cons_self ..)
    obtain ⟨a, b', e⟩ := in_loop (sc := sc) (c := c) (d := d) bs (some b) (some (.str t)) fun x hx => h x (List.mem_cons_of_mem _ hx)
    refine ⟨a, b', ?_⟩
    have e1 : evTg (.name 4) b (FL sc c d y4 y5) = .ok () (FL sc c d (some b) y5) := by cases y4 <;> simp [FL, gOf, noX, runF, endF, outOf, moN, start0, evSs, evS, evE, evEs, evP, evIf, evI, evTg, evTgs, evVar, evTake, evFrz, evLit, litD, evD, evBin, evUn, Res.bind, fin, rvD, asB, evB, evNot, evIte, evBlV, evAll, rvDs, valDs, evMk, mkTup, mkLst, evCallB, evMeth, evPart, evNoPart, evSl, intOf, intD, evChain, cmpI, evApp, evPop, evPop0, splitRs, putOut, evUser, evIter, srcOf, evSrc, lstOf, rng1_ok, rng2_ok, enum1, zip2, xSeq, xNil, xSet, xOwn, xAsg, xExpr, xRet, xIf, xPar, binG, cmpG, gAdd, gSub, gMul, gDiv, gMod, gPow, gNeg, gIdx, gSl, biG, gIsi, isTy, gCmpI, tgName, tgSub, tgTup, tgsCons, tgsNil, Tgs.len, CEs.len, locAt, Sl.loc, setC, evYes, evNone, ixN, smallB_ok, posB_ok, wipeF, wipeOk, wipeAt, backAt, gEq_int, gNe_int, gEq_str, gNe_str, gEq_bool, gNe_bool, gIs, gIsNot, isNon, lenD, meT, tyD_str, tyD_list, ati0, ati1, ati2, ati3, ov]
    have e2 : evSs q1_law (FL sc c d (some b) y5) = .nx (FL sc c d (some b) (some (.str t))) := by
      cases y5 <;> simp [FL, q1_law, gOf, noX, runF, endF, outOf, moN, start0, evSs, evS, evE, evEs, evP, evIf, evI, evTg, evTgs, evVar, evTake, evFrz, evLit, litD, evD, evBin, evUn, Res.bind, fin, rvD, asB, evB, evNot, evIte, evBlV, evAll, rvDs, valDs, evMk, mkTup, mkLst, evCallB, evMeth, evPart, evNoPart, evSl, intOf, intD, evChain, cmpI, evApp, evPop, evPop0, splitRs, putOut, evUser, evIter, srcOf, evSrc, lstOf, rng1_ok, rng2_ok, enum1, zip2, xSeq, xNil, xSet, xOwn, xAsg, xExpr, xRet, xIf, xPar, binG, cmpG, gAdd, gSub, gMul, gDiv, gMod, gPow, gNeg, gIdx, gSl, biG, gIsi, isTy, gCmpI, tgName, tgSub, tgTup, tgsCons, tgsNil, Tgs.len, CEs.len, locAt, Sl.loc, setC, evYes, evNone, ixN, smallB_ok, posB_ok, wipeF, wipeOk, wipeAt, backAt, gEq_int, gNe_int, gEq_str, gNe_str, gEq_bool, gNe_bool, gIs, gIsNot, isNon, lenD, meT, tyD_str, tyD_list, ati0, ati1, ati2, ati3, ov, fb.lt, fb.bt, fb.s1, fb.rd, fb.s2]
    unfold forGo
    rw [e1]; simp only
    rw [e2]; simp only
    rw [e]
end Mi
set_option Elab.async false
set_option linter.all false
set_option maxRecDepth 100000
set_option autoImplicit false
namespace Mi
open PySem PySem.Spec L2
def ow : Option D → Sl
  | none => .un
  | some d => .own d
def FO (sc : D) (c dk y4 y5 : Option D) : Fr := [.val sc, .val six, ov c, ow dk, ov y4, ov y5]
theorem in_for {sc : D} {c : Int} {n : Nat} {d : D} {y4 y5 : Option D} (h : Dk n d) (hn : n < 1000) : ∃ d' y4' y5', evS l1_law (FO sc (some (.int c)) (some d) y4 y5) = .nx (FO sc (some (.int c)) (some d') y4' y5') := by
  obtain ⟨b1, d1, e1, g1, k1⟩ := t_drawn (mo := 3000) h (by omega) (by decide)
  obtain ⟨b2, d2, e2, g2, k2⟩ := t_drawn (mo := 300) k1 (by omega) (by decide)
  have hkn := kn_ok
  rw [List.all_eq_true] at hkn
  obtain ⟨y4', y5', e3⟩ := in_loop (sc := sc) (c := .int c) (d := d2) (b1 :: b2 :: six :: kn) y4 y5 fun b hb => by
    rcases List.mem_cons.mp hb with rfl | hb
    · exact fb_of g1
    · rcases List.mem_cons.mp hb with rfl | hb
      · exact fb_of g2
      · exact okC_fb (hkn b hb)
  refine ⟨d2, y4', y5', ?_⟩
  have hl : 3 + kn.length ≤ most := by rw [kn_len]; decide
  have hk := kn_eq
  obtain ⟨_, _, _, rfl, _⟩ := h
  obtain ⟨_, _, _, rfl, _⟩ := k1
  obtain ⟨u, v, w, rfl, _⟩ := k2
  unfold l1_law
  rw [for_ev (ds := b1 :: b2 :: six :: kn) (en1 := FL sc (.int c) (.list [.int u, .int v, .int w]) y4 y5) (by simp [FO, FL, gOf, noX, runF, endF, outOf, moN, start0, evSs, evS, evE, evEs, evP, evIf, evI, evTg, evTgs, evVar, evTake, evFrz, evLit, litD, evD, evBin, evUn, Res.bind, fin, rvD, asB, evB, evNot, evIte, evBlV, evAll, rvDs, valDs, evMk, mkTup, mkLst, evCallB, evMeth, evPart, evNoPart, evSl, intOf, intD, evChain, cmpI, evApp, evPop, evPop0, splitRs, putOut, evUser, evIter, srcOf, evSrc, lstOf, rng1_ok, rng2_ok, enum1, zip2, xSeq, xNil, xSet, xOwn, xAsg, xExpr, xRet, xIf, xPar, binG, cmpG, gAdd, gSub, gMul, gDiv, gMod, gPow, gNeg, gIdx, gSl, biG, gIsi, isTy, gCmpI, tgName, tgSub, tgTup, tgsCons, tgsNil, Tgs.len, CEs.len, locAt, Sl.loc, setC, evYes, evNone, ixN, smallB_ok, posB_ok, wipeF, wipeOk, wipeAt, backAt, gEq_int, gNe_int, gEq_str, gNe_str, gEq_bool, gNe_bool, gIs, gIsNot, isNon, lenD, meT, tyD_str, tyD_list, ati0, ati1, ati2, ati3, ov, ow, e1, e2, hk, hl]), e3]
  rfl
theorem cell_step {sc : D} {c : Int} {y2 dk y4 y5 : Option D} : ∃ en1, evTg (.name 2) (.int c) (FO sc y2 dk y4 y5) = .ok () en1 ∧ ∃ d' y4' y5', evSs q2_law en1 = .nx (FO sc (some (.int c)) (some d') y4' y5') := by
  obtain ⟨d, e1, k1⟩ := t_deck c 20 20 (by decide) (by decide)
  obtain ⟨d', y4', y5', e2⟩ := in_for (sc := sc) (c := c) (y4 := y4) (y5 := y5) k1 (by decide)
  refine ⟨FO sc (some (.int c)) dk y4 y5, by cases y2 <;> simp [FO, gOf, noX, runF, endF, outOf, moN, start0, evSs, evS, evE, evEs, evP, evIf, evI, evTg, evTgs, evVar, evTake, evFrz, evLit, litD, evD, evBin, evUn, Res.bind, fin, rvD, asB, evB, evNot, evIte, evBlV, evAll, rvDs, valDs, evMk, mkTup, mkLst, evCallB, evMeth, evPart, evNoPart, evSl, intOf, intD, evChain, cmpI, evApp, evPop, evPop0, splitRs, putOut, evUser, evIter, srcOf, evSrc, lstOf, rng1_ok, rng2_ok, enum1, zip2, xSeq, xNil, xSet, xOwn, xAsg, xExpr, xRet, xIf, xPar, binG, cmpG, gAdd, gSub, gMul, gDiv, gMod, gPow, gNeg, gIdx, gSl, biG, gIsi, isTy, gCmpI, tgName, tgSub, tgTup, tgsCons, tgsNil, Tgs.len, CEs.len, locAt, Sl.loc, setC, evYes, evNone, ixN, smallB_ok, posB_ok, wipeF, wipeOk, wipeAt, backAt, gEq_int, gNe_int, gEq_str, gNe_str, gEq_bool, gNe_bool, gIs, gIsNot, isNon, lenD, meT, tyD_str, tyD_list, ati0, ati1, ati2, ati3, ov], d', y4', y5', ?_⟩
  obtain ⟨_, _, _, rfl, _⟩ := k1
  simp only [FO, ow, ov] at e2 ⊢
  cases dk <;> simp [q2_law, gOf, noX, runF, endF, outOf, moN, start0, evSs, evS, evE, evEs, evP, evIf, evI, evTg, evTgs, evVar, evTake, evFrz, evLit, litD, evD, evBin, evUn, Res.bind, fin, rvD, asB, evB, evNot, evIte, evBlV, evAll, rvDs, valDs, evMk, mkTup, mkLst, evCallB, evMeth, evPart, evNoPart, evSl, intOf, intD, evChain, cmpI, evApp, evPop, evPop0, splitRs, putOut, evUser, evIter, srcOf, evSrc, lstOf, rng1_ok, rng2_ok, enum1, zip2, xSeq, xNil, xSet, xOwn, xAsg, xExpr, xRet, xIf, xPar, binG, cmpG, gAdd, gSub, gMul, gDiv, gMod, gPow, gNeg, gIdx, gSl, biG, gIsi, isTy, gCmpI, tgName, tgSub, tgTup, tgsCons, tgsNil, Tgs.len, CEs.len, locAt, Sl.loc, setC, evYes, evNone, ixN, smallB_ok, posB_ok, wipeF, wipeOk, wipeAt, backAt, gEq_int, gNe_int, gEq_str, gNe_str, gEq_bool, gNe_bool, gIs, gIsNot, isNon, lenD, meT, tyD_str, tyD_list, ati0, ati1, ati2, ati3, e1, e2]
theorem out_loop {sc : D} : ∀ (cs : List Int) (y2 dk y4 y5 : Option D), ∃ y2' dk' y4' y5', forGo (evTg (.name 2)) (evSs q2_law) (cs.map PyData.int) (FO sc y2 dk y4 y5) = .nx (FO sc y2' dk' y4' y5')
  | [], y2, dk, y4, y5 => ⟨y2, dk, y4, y5, rfl⟩
  | c :: cs, y2, dk, y4, y5 => by
    obtain ⟨en1, e1, d', y4', y5', e2⟩ := cell_step (sc := sc) (c := c) (y2 := y2) (dk := dk) (y4 := y4) (y5 := y5)
    obtain ⟨a1, a2, a3, a4, e3⟩ := out_loop (sc := sc) cs (some (.int c)) (some d') y4' y5'
    refine ⟨a1, a2, a3, a4, ?_⟩
    rw [List.map_cons]
    unfold forGo
    rw [e1]; simp only
    rw [e2]; simp only
    rw [e3]
theorem law_true (ns : List Int) (h : ns.length ≤ 63) : g_law none [.list (ns.map .int)] = .ok (.bool true) false none := by
  obtain ⟨a1, a2, a3, a4, e3⟩ := out_loop (sc := .list (ns.map .int)) ((0 :: ns).take 12) none none none none
  have hl : 1 + ns.length ≤ most := Nat.le_trans (Nat.add_le_add_left h 1) (by decide)
  have hc : cutD (.int 0 :: ns.map PyData.int) none (some 12) = ((0 :: ns).take 12).map PyData.int := by
    rw [List.map_take]
    exact cut_to _ 12
  have e4 : evS l2_law (FO (.list (ns.map .int)) none none none none) = .nx (FO (.list (ns.map .int)) a1 a2 a3 a4) := by
    unfold l2_law
    generalize (0 :: ns).take 12 = cs at hc e3
    rw [for_ev (ds := cs.map PyData.int) (en1 := FO (.list (ns.map .int)) none none none none) (by simp [FO, gOf, noX, runF, endF, outOf, moN, start0, evSs, evS, evE, evEs, evP, evIf, evI, evTg, evTgs, evVar, evTake, evFrz, evLit, litD, evD, evBin, evUn, Res.bind, fin, rvD, asB, evB, evNot, evIte, evBlV, evAll, rvDs, valDs, evMk, mkTup, mkLst, evCallB, evMeth, evPart, evNoPart, evSl, intOf, intD, evChain, cmpI, evApp, evPop, evPop0, splitRs, putOut, evUser, evIter, srcOf, evSrc, lstOf, rng1_ok, rng2_ok, enum1, zip2, xSeq, xNil, xSet, xOwn, xAsg, xExpr, xRet, xIf, xPar, binG, cmpG, gAdd, gSub, gMul, gDiv, gMod, gPow, gNeg, gIdx, gSl, biG, gIsi, isTy, gCmpI, tgName, tgSub, tgTup, tgsCons, tgsNil, Tgs.len, CEs.len, locAt, Sl.loc, setC, evYes, evNone, ixN, smallB_ok, posB_ok, wipeF, wipeOk, wipeAt, backAt, gEq_int, gNe_int, gEq_str, gNe_str, gEq_bool, gNe_bool, gIs, gIsNot, isNon, lenD, meT, tyD_str, tyD_list, ati0, ati1, ati2, ati3, ov, ow, hl, hc]), e3]
  simp only [FO, six] at e4
  simp [ov, ow] at e4
  simp [g_law, b_law, gOf, noX, runF, endF, outOf, moN, start0, evSs, evS, evE, evEs, evP, evIf, evI, evTg, evTgs, evVar, evTake, evFrz, evLit, litD, evD, evBin, evUn, Res.bind, fin, rvD, asB, evB, evNot, evIte, evBlV, evAll, rvDs, valDs, evMk, mkTup, mkLst, evCallB, evMeth, evPart, evNoPart, evSl, intOf, intD, evChain, cmpI, evApp, evPop, evPop0, splitRs, putOut, evUser, evIter, srcOf, evSrc, lstOf, rng1_ok, rng2_ok, enum1, zip2, xSeq, xNil, xSet, xOwn, xAsg, xExpr, xRet, xIf, xPar, binG, cmpG, gAdd, gSub, gMul, gDiv, gMod, gPow, gNeg, gIdx, gSl, biG, gIsi, isTy, gCmpI, tgName, tgSub, tgTup, tgsCons, tgsNil, Tgs.len, CEs.len, locAt, Sl.loc, setC, evYes, evNone, ixN, smallB_ok, posB_ok, wipeF, wipeOk, wipeAt, backAt, gEq_int, gNe_int, gEq_str, gNe_str, gEq_bool, gNe_bool, gIs, gIsNot, isNon, lenD, meT, tyD_str, tyD_list, ati0, ati1, ati2, ati3, e4]
end Mi
set_option Elab.async false
set_option linter.all false
set_option maxRecDepth 100000
set_option autoImplicit false
open PySem PySem.W PyProof.Rows
set_option maxHeartbeats 0 in
theorem PySem.Challenge.cw_ringbelts_k20_whole_texts_read_back_holds : PySem.Challenge.rw_ringbelts_k20_whole_texts_read_back.Holds := by
  w_on; o_law; k_head; (case hw => w_witness2)
  k_fill
  refine L2.walk_of (l := PySem.Challenge.rw_ringbelts_k20_whole_texts_read_back) (n := 63) (k := 7) (x := "script") (CX := fun _ => L2.CX0) (sp := fun w => Mi.spM _ 1 Mi.g_law) rfl (by decide) rfl ⟨rfl, by decide, by decide⟩ (fun w h Y => PySem.W.kIn_of Y) ?F (fun _ H a ns hl _ hS => Mi.law_sp Mi.law_true H a ns hl hS) (fun _ _ _ _ _ h => h)
  case F =>
    intro w mg fa h KX G hmg
    refine' Mi.cut (Mi.defA_mk (x := "_law_deck") (st := Mi.s__law_deck) (ps := ["cell", "turn"]) KX G (fun _ _ _ _ _ _ us hl => match us, hl with | [_, _], _ => rfl) ?a ?l ?c ?k) fun e__law_deck => ?_
    (case a => k_is); (case l => k_is); (case c => k_is); (case k => k_is)
    refine' Mi.cut (Mi.defA_mk (x := "_law_known") (st := Mi.s__law_known) (ps := []) KX G (fun _ _ _ _ _ _ us hl => match us, hl with | [], _ => rfl) ?a ?l ?c ?k) fun e__law_known => ?_
    (case a => k_is); (case l => k_is); (case c => k_is); (case k => k_is)
    refine' Mi.cut (Mi.defA_mk (x := "_law_text") (st := Mi.s__law_text) (ps := ["belt"]) KX G (fun _ _ _ _ _ _ us hl => match us, hl with | [_], _ => rfl) ?a ?l ?c ?k) fun e__law_text => ?_
    (case a => k_is); (case l => k_is); (case c => k_is); (case k => k_is)
    refine' Mi.cut (Mi.defA_mk (x := "_law_pick") (st := Mi.s__law_pick) (ps := ["deck", "size"]) KX G (fun _ _ _ _ _ _ us hl => match us, hl with | [_, _], _ => rfl) ?a ?l ?c ?k) fun e__law_pick => ?_
    (case a => k_is); (case l => k_is); (case c => k_is); (case k => k_is)
    refine' Mi.cut (Mi.defA_mk (x := "_law_one") (st := Mi.s__law_one) (ps := ["deck", "some"]) KX G (fun _ _ _ _ _ _ us hl => match us, hl with | [_, _], _ => rfl) ?a ?l ?c ?k) fun e__law_one => ?_
    (case a => k_is); (case l => k_is); (case c => k_is); (case k => k_is)
    refine' Mi.cut (Mi.defA_mk (x := "_law_station") (st := Mi.s__law_station) (ps := ["deck", "place", "kinds", "least"]) KX G (fun _ _ _ _ _ _ us hl => match us, hl with | [_, _, _, _], _ => rfl) ?a ?l ?c ?k) fun e__law_station => ?_
    (case a => k_is); (case l => k_is); (case c => k_is); (case k => k_is)
    refine' Mi.cut (Mi.defA_mk (x := "_law_states") (st := Mi.s__law_states) (ps := ["station", "kinds"]) KX G (fun _ _ _ _ _ _ us hl => match us, hl with | [_, _], _ => rfl) ?a ?l ?c ?k) fun e__law_states => ?_
    (case a => k_is); (case l => k_is); (case c => k_is); (case k => k_is)
    refine' Mi.cut (Mi.defA_mk (x := "_law_product") (st := Mi.s__law_product) (ps := ["belt"]) KX G (fun _ _ _ _ _ _ us hl => match us, hl with | [_], _ => rfl) ?a ?l ?c ?k) fun e__law_product => ?_
    (case a => k_is); (case l => k_is); (case c => k_is); (case k => k_is)
    refine' Mi.cut (Mi.defA_mk (x := "_law_drawn") (st := Mi.s__law_drawn) (ps := ["deck", "most"]) KX G (fun _ _ _ _ _ _ us hl => match us, hl with | [_, _], _ => rfl) ?a ?l ?c ?k) fun e__law_drawn => ?_
    (case a => k_is); (case l => k_is); (case c => k_is); (case k => k_is)
    refine' Mi.cut (Mi.defA_mk (x := "_law_sort") (st := Mi.s__law_sort) (ps := ["thing"]) KX G (fun _ _ _ _ _ _ us hl => match us, hl with | [_], _ => rfl) ?a ?l ?c ?k) fun e__law_sort => ?_
    (case a => k_is); (case l => k_is); (case c => k_is); (case k => k_is)
    refine' Mi.cut (Mi.defA_mk (x := "_law_same") (st := Mi.s__law_same) (ps := ["told", "due"]) KX G (fun _ _ _ _ _ _ us hl => match us, hl with | [_, _], _ => rfl) ?a ?l ?c ?k) fun e__law_same => ?_
    (case a => k_is); (case l => k_is); (case c => k_is); (case k => k_is)
    refine' Mi.cut (Mi.defA_mk (x := "is_within") (st := Mi.s_is_within) (ps := ["value", "low", "high"]) KX G (fun _ _ _ _ _ _ us hl => match us, hl with | [_, _, _], _ => rfl) ?a ?l ?c ?k) fun e_is_within => ?_
    (case a => k_is); (case l => k_is); (case c => k_is); (case k => k_is)
    refine' Mi.cut (Mi.defA_mk (x := "is_hatch") (st := Mi.s_is_hatch) (ps := ["station"]) KX G (fun _ _ _ _ _ _ us hl => match us, hl with | [_], _ => rfl) ?a ?l ?c ?k) fun e_is_hatch => ?_
    (case a => k_is); (case l => k_is); (case c => k_is); (case k => k_is)
    refine' Mi.cut (Mi.defA_mk (x := "states_of") (st := Mi.s_states_of) (ps := ["station", "kinds"]) KX G (fun _ _ _ _ _ _ us hl => match us, hl with | [_, _], _ => rfl) ?a ?l ?c ?k) fun e_states_of => ?_
    (case a => k_is); (case l => k_is); (case c => k_is); (case k => k_is)
    refine' Mi.cut (Mi.defA_mk (x := "product_of") (st := Mi.s_product_of) (ps := ["belt"]) KX G (fun _ _ _ _ _ _ us hl => match us, hl with | [_], _ => rfl) ?a ?l ?c ?k) fun e_product_of => ?_
    (case a => k_is); (case l => k_is); (case c => k_is); (case k => k_is)
    refine' Mi.cut (Mi.defA_mk (x := "is_wishes") (st := Mi.s_is_wishes) (ps := ["value", "kinds"]) KX G (fun _ _ _ _ _ _ us hl => match us, hl with | [_, _], _ => rfl) ?a ?l ?c ?k) fun e_is_wishes => ?_
    (case a => k_is); (case l => k_is); (case c => k_is); (case k => k_is)
    refine' Mi.cut (Mi.defA_mk (x := "is_station") (st := Mi.s_is_station) (ps := ["value", "slots", "kinds"]) KX G (fun _ _ _ _ _ _ us hl => match us, hl with | [_, _, _], _ => rfl) ?a ?l ?c ?k) fun e_is_station => ?_
    (case a => k_is); (case l => k_is); (case c => k_is); (case k => k_is)
    refine' Mi.cut (Mi.defA_mk (x := "is_belt_value") (st := Mi.s_is_belt_value) (ps := ["value"]) KX G (fun _ _ _ _ _ _ us hl => match us, hl with | [_], _ => rfl) ?a ?l ?c ?k) fun e_is_belt_value => ?_
    (case a => k_is); (case l => k_is); (case c => k_is); (case k => k_is)
    refine' Mi.cut (Mi.defA_mk (x := "need_belt") (st := Mi.s_need_belt) (ps := ["value"]) KX G (fun _ _ _ _ _ _ us hl => match us, hl with | [_], _ => rfl) ?a ?l ?c ?k) fun e_need_belt => ?_
    (case a => k_is); (case l => k_is); (case c => k_is); (case k => k_is)
    refine' Mi.cut (Mi.defA_mk (x := "station_line") (st := Mi.s_station_line) (ps := ["station"]) KX G (fun _ _ _ _ _ _ us hl => match us, hl with | [_], _ => rfl) ?a ?l ?c ?k) fun e_station_line => ?_
    (case a => k_is); (case l => k_is); (case c => k_is); (case k => k_is)
    refine' Mi.cut (Mi.defA_mk (x := "belt_text") (st := Mi.s_belt_text) (ps := ["belt"]) KX G (fun _ _ _ _ _ _ us hl => match us, hl with | [_], _ => rfl) ?a ?l ?c ?k) fun e_belt_text => ?_
    (case a => k_is); (case l => k_is); (case c => k_is); (case k => k_is)
    refine' Mi.cut (Mi.defA_mk (x := "number_of") (st := Mi.s_number_of) (ps := ["word"]) KX G (fun _ _ _ _ _ _ us hl => match us, hl with | [_], _ => rfl) ?a ?l ?c ?k) fun e_number_of => ?_
    (case a => k_is); (case l => k_is); (case c => k_is); (case k => k_is)
    refine' Mi.cut (Mi.defA_mk (x := "head_of") (st := Mi.s_head_of) (ps := ["line"]) KX G (fun _ _ _ _ _ _ us hl => match us, hl with | [_], _ => rfl) ?a ?l ?c ?k) fun e_head_of => ?_
    (case a => k_is); (case l => k_is); (case c => k_is); (case k => k_is)
    refine' Mi.cut (Mi.defA_mk (x := "station_of") (st := Mi.s_station_of) (ps := ["line"]) KX G (fun _ _ _ _ _ _ us hl => match us, hl with | [_], _ => rfl) ?a ?l ?c ?k) fun e_station_of => ?_
    (case a => k_is); (case l => k_is); (case c => k_is); (case k => k_is)
    refine' Mi.cut (Mi.defA_mk (x := "read_belt") (st := Mi.s_read_belt) (ps := ["value"]) KX G (fun _ _ _ _ _ _ us hl => match us, hl with | [_], _ => rfl) ?a ?l ?c ?k) fun e_read_belt => ?_
    (case a => k_is); (case l => k_is); (case c => k_is); (case k => k_is)
    refine' Mi.cut (Mi.glo_tup (x := "RULES") (ds := [(.str "eager"), (.str "polite"), (.str "gap")]) KX G ?a ?l ?v) fun u_RULES => ?_
    (case a => k_is); (case l => k_is); (case v => first | rfl | decide +kernel)
    refine' Mi.cut (Mi.glo_int (x := "MOST_BUSY") (i := 3) KX G ?a) fun u_MOST_BUSY => ?_
    (case a => k_is)
    refine' Mi.cut (Mi.glo_tup (x := "KINDS") (ds := [(.str "a"), (.str "ab"), (.str "abc")]) KX G ?a ?l ?v) fun u_KINDS => ?_
    (case a => k_is); (case l => k_is); (case v => first | rfl | decide +kernel)
    refine' Mi.cut (Mi.glo_int (x := "MOST_STANDS") (i := 3000) KX G ?a) fun u_MOST_STANDS => ?_
    (case a => k_is)
    refine' Mi.cut (Mi.glo_str (x := "FIGURES") (z := "0123456789") KX G ?a) fun u_FIGURES => ?_
    (case a => k_is)
    refine' Mi.cut (PySem.W.mg_none_of (n := "all") KX G ?a) fun z0 => ?_
    (case a => k_is)
    refine' Mi.cut (PySem.W.mg_none_of (n := "any") KX G ?a) fun z1 => ?_
    (case a => k_is)
    refine' Mi.cut (PySem.W.mg_none_of (n := "bool") KX G ?a) fun z2 => ?_
    (case a => k_is)
    refine' Mi.cut (PySem.W.mg_none_of (n := "enumerate") KX G ?a) fun z3 => ?_
    (case a => k_is)
    refine' Mi.cut (PySem.W.mg_none_of (n := "int") KX G ?a) fun z4 => ?_
    (case a => k_is)
    refine' Mi.cut (PySem.W.mg_none_of (n := "isinstance") KX G ?a) fun z5 => ?_
    (case a => k_is)
    refine' Mi.cut (PySem.W.mg_none_of (n := "len") KX G ?a) fun z6 => ?_
    (case a => k_is)
    refine' Mi.cut (PySem.W.mg_none_of (n := "list") KX G ?a) fun z7 => ?_
    (case a => k_is)
    refine' Mi.cut (PySem.W.mg_none_of (n := "max") KX G ?a) fun z8 => ?_
    (case a => k_is)
    refine' Mi.cut (PySem.W.mg_none_of (n := "range") KX G ?a) fun z9 => ?_
    (case a => k_is)
    refine' Mi.cut (PySem.W.mg_none_of (n := "sorted") KX G ?a) fun z10 => ?_
    (case a => k_is)
    refine' Mi.cut (PySem.W.mg_none_of (n := "str") KX G ?a) fun z11 => ?_
    (case a => k_is)
    refine' Mi.cut (PySem.W.mg_none_of (n := "tuple") KX G ?a) fun z12 => ?_
    (case a => k_is)
    refine' Mi.cut (PySem.W.mg_none_of (n := "zip") KX G ?a) fun z13 => ?_
    (case a => k_is)
    refine' Mi.cut (Mi.Facts.mk ⟨z0, ⟨z1, ⟨z2, ⟨z3, ⟨z4, ⟨z5, ⟨z6, ⟨z7, ⟨z8, ⟨z9, ⟨z10, ⟨z11, ⟨z12, ⟨z13, trivial⟩⟩⟩⟩⟩⟩⟩⟩⟩⟩⟩⟩⟩⟩ u_RULES u_MOST_BUSY u_KINDS u_MOST_STANDS u_FIGURES e__law_deck e__law_known e__law_text e__law_pick e__law_one e__law_station e__law_states e__law_product e__law_drawn e__law_sort e__law_same e_is_within e_is_hatch e_states_of e_product_of e_is_wishes e_is_station e_is_belt_value e_need_belt e_station_line e_belt_text e_number_of e_head_of e_station_of e_read_belt) fun T => ?_
    refine' Mi.end_mk KX G hmg T ?a ?l ?c ?k
    (case a => k_is); (case l => k_is); (case c => k_is); (case k => k_is)
