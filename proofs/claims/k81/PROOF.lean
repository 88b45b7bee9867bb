import PyProof.Rows.All
import Wide.All
import OpenK.AllK
import Wide.FinOn
import HandS.SetFor
import HandS.Strs
import HandS.ForMost
import HandS.ForExc
import HandS.IsInst
import HandS.SortInts
import HandS.TupAny
import HandS.Deep
import KE.KDictKeyed
import KE.KeyNested
import KE.KDictDisplayH
import HandS.ExcIs
import HandS.Style
import HandS.Conv
import PySem.Challenge.RW_hotmoves_k81_read_back
set_option Elab.async false
set_option linter.all false
set_option maxRecDepth 100000
set_option maxHeartbeats 2000000
/-! GS: set(a list of ints), at the library's level. -/
namespace G
open PySem L2 PyProof.Rows
abbrev set0 (w : World) : Obj := { cls := .type "set", dict := none, data := .set #[] 0 (.fresh 0 0 (!w.params.followText "set-order")) }
section
variable {P : Program} {w : World} {A : Around} {E : Value → Shared → Prop} {s : Shared}
set_option maxHeartbeats 4000000 in
theorem set_of_list {l : Addr} {xs : Array Value} (ns : List Int) {Q : Value → Shared → Prop} (quiet : A.handled = none) (isl : s.heap.IsList l xs) (isI : IntsAre xs.toList ns) (few : ns.length + 1 < scanBound)
    (k : ∀ (h' : Heap) (tk c : Nat), SetR w h' s.heap.objs.size (fun j => decide (j ∈ ns)) c → c ≤ ns.length → (∀ b o, s.heap.get? b = some o → h'.get? b = some o) → Q (.ref s.heap.objs.size) { s with heap := h', toks := tk }) : wpAny (model P w) A (call (.type "set") [.ref l]) Q E s := by
  have size : xs.size = ns.length := by have q := IntsAre.length isI; rwa [Array.length_toList] at q
  obtain ⟨mc, mt, way⟩ := F.called_set.mro
  have f1 := F.called_set.made; have f2 := F.called_set.sub
  refine wpAny_call (codeAny_of_tree ?_); show wpAny _ _ (callAny (.type "set") _) _ _ _
  refine wpAny_pure ⟨Code.quiet_builtin _ (by decide +kernel), codeAny_builtin F.entry_type_call ?_⟩; rw [Around.under_plain (weight_type_call_type "set" [.ref l] []) rfl]
  have f3 := F.called_set.notType; have f4 := F.called_set.canCreate; have f5 := F.typeCall_set_1 (.ref l)
  repeat (any_goals (first | assumption | wp_step))
  refine codeAny_mono (code_set_led1 (.ref l) (E := E) (Q₁ := fun made s1 => made = .ref s.heap.objs.size ∧ s1 = { s with heap := s.heap.push (set0 w) }) ⟨rfl, rfl⟩) fun r s1 hr => ?_
  rcases r with e | fl
  · exact hr
  · rcases fl with _ | _ | _ | made
    · exact hr.elim
    · exact hr.elim
    · exact hr.elim
    · obtain ⟨rfl, rfl⟩ := hr
      have g0 : (s.heap.push (set0 w)).get? s.heap.objs.size = some (set0 w) := Heap.get?_push_size _ rfl
      have g1 : Shared.TypeIs { s with heap := s.heap.push (set0 w) } (.ref s.heap.objs.size) "set" := ⟨_, g0, rfl⟩
      have f6 := F.called_set.init.lookup; have f7 := F.called_set.init.bind (.ref s.heap.objs.size)
      repeat (any_goals (first | assumption | wp_step))
      refine codeAny_mono (codeAny_call_builtin (R := wants (fun r s2 => r = .none ∧ ∃ h' tk c, s2 = { s with heap := h', toks := tk } ∧ SetR w h' s.heap.objs.size (fun j => decide (j ∈ ns)) c ∧ c ≤ ns.length ∧ (∀ b o, s.heap.get? b = some o → h'.get? b = some o)) E) F.called_set.init.plain F.entry_set_init (check_set_init_1 g1 ?_)) fun r2 s2 hr2 => ?_
      · obtain ⟨⟨oc, od, dt, sl⟩, ho, hc, n, hd⟩ := isl
        simp only at hc hd; subst hc; subst hd
        have ho' : (s.heap.push (set0 w)).get? l = some { cls := .type "list", dict := od, data := .seq xs n, slots := sl } := Heap.get?_push_of_some _ ho
        have s1 := F.sub_list_set; have s2 := F.sub_list_frozenset
        have nd : (Value.type "list" == Value.type "dict") = false := by decide
        have is1 : (s.heap.push (set0 w)).IsList l xs := ⟨_, ho', rfl, n, rfl⟩
        unfold Builtin.«set.__init__» noKeywords Builtin.Frozenset.updateFrom
        generalize hPI : pyIter = PI
        wp_walk
        subst hPI
        refine wpAny_pyIter_list is1 (wpAny_bind (wpAny_runValue ?_))
        have lt := Heap.lt_size ho
        have quiet3 : A.in1.in1.in1.handled = none := by simp [quiet]
        have sz : (s.heap.push (set0 w)).objs.size = s.heap.objs.size + 1 := Heap.size_push ..
        have ne1 : l ≠ (s.heap.push (set0 w)).objs.size := by rw [sz]; exact Nat.ne_of_lt (Nat.lt_succ_of_lt lt)
        have ne2 : s.heap.objs.size ∉ [(s.heap.push (set0 w)).objs.size, l] := by
          rw [sz]; simp only [List.mem_cons, List.not_mem_nil, or_false, not_or]; exact ⟨Nat.ne_of_lt (Nat.lt_succ_self _), Nat.ne_of_gt lt⟩
        have vals : ∀ (i : Nat) (v : Value), xs[i]? = some v → ∃ z t, ns[i]? = some z ∧ v = .int z t := fun i v hv => by
          have li : i < ns.length := by rw [← size]; exact (Array.getElem?_eq_some_iff.mp hv).1
          obtain ⟨t, e⟩ := IntsAre.int_at isI i v (by rw [Array.getElem?_toList]; exact hv)
          exact ⟨ns[i], t, List.getElem?_eq_getElem li, by rw [e, List.getD_eq_getElem?_getD, List.getElem?_eq_getElem li] <;> rfl⟩
        refine set_update_ints ((Walks.list quiet3 _ l ne1 xs).toS) s.heap.objs.size ne2 ns size few vals (xs.size - 0) 0 _ (by omega) (Nat.zero_le _) ⟨⟨_, Heap.get?_push_size _ rfl, rfl, rfl⟩, (is1.push _)⟩ ⟨0, Nat.le_refl 0, setR_new_at (Heap.get?_push_of_some _ g0)⟩ ?hR
        case hR =>
          rintro ⟨h', g2, d', tk', os'⟩ c' mv lc R
          have e1 : g2 = s.gens := mv.gens; have e2 : d' = s.drawn := mv.drawn; have e3 : os' = s.os := mv.os
          subst e1; subst e2; subst e3
          show wpAny _ _ _ _ _ _
          refine wpAny_pure ?_
          show wpAny _ _ (ret Value.none) _ _ _
          rw [size] at lc
          refine wpAny_pure ⟨rfl, h', tk', c', rfl, R, lc, fun b o e => mv.heap b o ?_ (Heap.get?_push_of_some _ (Heap.get?_push_of_some _ e))⟩
          have lb : b < s.heap.objs.size := Heap.lt_size e
          simp only [List.mem_cons, List.not_mem_nil, or_false, not_or]
          exact ⟨Nat.ne_of_lt lb, by rw [sz]; exact Nat.ne_of_lt (Nat.lt_succ_of_lt lb)⟩
      · rcases r2 with e | fl2
        · exact hr2
        · rcases fl2 with _ | _ | _ | r
          · exact hr2.elim
          · exact hr2.elim
          · exact hr2.elim
          · obtain ⟨rfl, h', tk, c', rfl, R, lc, kept⟩ := hr2
            repeat (any_goals (first | assumption | wp_step))
            exact k _ _ _ R lc kept
end
end G

/-! GA: frames of heaps, steps through readings, calls by promises. -/
namespace G
open PySem L2

/-! ### what stays of a heap -/
def Fix : HO → Bool
  | .tup _ => true
  | .ins _ _ _ => true
  | .own _ => true
  | .frz _ _ => true
  | _ => false
/-- all that H tracks stands in H', but what lies at S -/
structure Fr (S : List Addr) (H H' : Hp) : Prop where
  kp : ∀ a o, H a = some o → a ∉ S → H' a = some o
  fx : ∀ a o, H a = some o → Fix o = true → H' a = some o
  fr : ∀ a, H' a = none → H a = none
theorem Fr.refl (S : List Addr) (H : Hp) : Fr S H H := ⟨fun _ _ h _ => h, fun _ _ h _ => h, fun _ h => h⟩
theorem Fr.trans {S : List Addr} {H H1 H2 : Hp} (a : Fr S H H1) (b : Fr S H1 H2) : Fr S H H2 :=
  ⟨fun x o h n => b.kp x o (a.kp x o h n) n, fun x o h f => b.fx x o (a.fx x o h f) f, fun x h => a.fr x (b.fr x h)⟩
theorem Fr.mono {S T : List Addr} {H H' : Hp} (a : Fr S H H') (h : ∀ x ∈ S, x ∈ T) : Fr T H H' := ⟨fun x o e n => a.kp x o e fun z => n (h x z), a.fx, a.fr⟩
theorem Fr.of0 {S : List Addr} {H H' : Hp} (a : Fr [] H H') : Fr S H H' := a.mono fun _ z => nomatch z
theorem Fr.new {S : List Addr} {H : Hp} {p : Addr} {o : HO} (h : H p = none) : Fr S H (upd H p o) :=
  ⟨fun x u e _ => by rw [upd_ne (ne_of_none e h)]; exact e, fun x u e _ => by rw [upd_ne (ne_of_none e h)]; exact e, fun x e => by
    by_cases q : x = p
    · rw [q]; exact h
    · rw [upd_ne q] at e; exact e⟩
/-- a new or a own object is written -/
theorem Fr.put {S : List Addr} {H H1 : Hp} {p : Addr} {o : HO} (f : Fr S H H1) (h : H p = none) : Fr S H (upd H1 p o) :=
  ⟨fun x u e n => by rw [upd_ne (ne_of_none e h)]; exact f.kp x u e n, fun x u e n => by rw [upd_ne (ne_of_none e h)]; exact f.fx x u e n, fun x e => by
    by_cases q : x = p
    · rw [q]; exact h
    · rw [upd_ne q] at e; exact f.fr x e⟩
/-- an object at S is written -/
theorem Fr.at {S : List Addr} {H H1 : Hp} {p : Addr} {o u : HO} (f : Fr S H H1) (hp : p ∈ S) (hu : H1 p = some u) (nf : Fix u = false) : Fr S H (upd H1 p o) :=
  ⟨fun x v e n => by rw [upd_ne (fun z : x = p => n (by rw [z]; exact hp))]; exact f.kp x v e n, fun x v e n => by
    have q := f.fx x v e n
    have ne : x ≠ p := fun z => by subst z; rw [q] at hu; cases hu; rw [n] at nf; cases nf
    rw [upd_ne ne]; exact q, fun x e => by
    by_cases q : x = p
    · rw [q, upd_same] at e; cases e
    · rw [upd_ne q] at e; exact f.fr x e⟩
theorem Fr.seqL {K : PySem.W.Frag} {S : List Addr} {H H' : Hp} {a : Addr} {xs : List V} (f : Fr S H H') (n : a ∉ S) (h : SqL K H a xs) : SqL K H' a xs := by
  rcases h with (h | ⟨o, h⟩) | h
  · exact .inl (.inl (f.kp a _ h n))
  · exact .inl (.inr ⟨o, f.fx a _ h rfl⟩)
  · exact .inr h
theorem Fr.seqT {K : PySem.W.Frag} {S : List Addr} {H H' : Hp} {a : Addr} {xs : List V} (f : Fr S H H') (h : SqT K H a xs) : SqT K H' a xs := by
  rcases h with (h | ⟨o, h⟩) | h
  · exact .inl (.inl (f.fx a _ h rfl))
  · exact .inl (.inr ⟨o, f.fx a _ h rfl⟩)
  · exact .inr h
theorem Fr.tup {S : List Addr} {H H' : Hp} {a : Addr} {xs : List V} (f : Fr S H H') (h : H a = some (.tup xs)) : H' a = some (.tup xs) := f.fx a _ h rfl
theorem Fr.ins {S : List Addr} {H H' : Hp} {a C dx : Addr} {fs : List (Str × V)} (f : Fr S H H') (h : H a = some (.ins C dx fs)) : H' a = some (.ins C dx fs) := f.fx a _ h rfl

/-! ### steps -/
section
variable {σ : L2.St} {H : Hp} {Q : VK} {nx bk ct : L2.St → Hp → Prop} {rt : VK} {ta tb tc te : TE} {t u : TS} {v : V} {i : Nat} {g : TG} {r r' : R2} {c c' : TT} {K : PySem.W.Frag}
theorem w_var (h : σ[i]? = some (some v)) (q : Q v H) : tVar i σ H Q := ⟨v, h, q⟩
theorem w_c (q : Q v H) : tC v σ H Q := q
theorem w_op (h : ta σ H fun x H1 => tb σ H1 fun y H2 => r x y H2 Q) : tOp r ta tb σ H Q := h
theorem w_un {r : V → Hp → VK → Prop} (h : ta σ H fun x H1 => r x H1 Q) : tUn r ta σ H Q := h
theorem w_I0 {f : Int → Int → V} {i j : Int} (q : Q (f i j) H) : rI0 f (.int i) (.int j) H Q := ⟨i, j, rfl, rfl, q⟩
theorem w_I {C : Int → Int → Prop} {f : Int → Int → V} {i j : Int} (c : C i j) (q : Q (f i j) H) : rI C f (.int i) (.int j) H Q := ⟨i, j, rfl, rfl, c, q⟩
theorem w_U {f : Int → V} {i : Int} (q : Q (f i) H) : rU f (.int i) H Q := ⟨i, rfl, q⟩
theorem w_eq {x y : V} (h : scal x y = true) (q : Q (.bl (decide (x = y))) H) : rEq x y H Q := ⟨h, q⟩
theorem w_ne {x y : V} (h : scal x y = true) (q : Q (.bl (!decide (x = y))) H) : rNe x y H Q := ⟨h, q⟩
theorem w_eqI {i j : Int} (q : Q (.bl (decide (i = j))) H) : rEq (.int i) (.int j) H Q := ⟨rfl, by
  have e : decide (V.int i = V.int j) = decide (i = j) := by
    by_cases h : i = j
    · rw [h, decide_eq_true rfl, decide_eq_true rfl]
    · rw [decide_eq_false h, decide_eq_false fun z => h (V.int.inj z)]
  rw [e]; exact q⟩
theorem w_neI {i j : Int} (q : Q (.bl (!decide (i = j))) H) : rNe (.int i) (.int j) H Q := ⟨rfl, by
  have e : decide (V.int i = V.int j) = decide (i = j) := by
    by_cases h : i = j
    · rw [h, decide_eq_true rfl, decide_eq_true rfl]
    · rw [decide_eq_false h, decide_eq_false fun z => h (V.int.inj z)]
  rw [e]; exact q⟩
theorem w_eqS {i j : Str} (q : Q (.bl (decide (i = j))) H) : rEq (.str i) (.str j) H Q := ⟨rfl, by
  have e : decide (V.str i = V.str j) = decide (i = j) := by
    by_cases h : i = j
    · rw [h, decide_eq_true rfl, decide_eq_true rfl]
    · rw [decide_eq_false h, decide_eq_false fun z => h (V.str.inj z)]
  rw [e]; exact q⟩
theorem w_neS {i j : Str} (q : Q (.bl (!decide (i = j))) H) : rNe (.str i) (.str j) H Q := ⟨rfl, by
  have e : decide (V.str i = V.str j) = decide (i = j) := by
    by_cases h : i = j
    · rw [h, decide_eq_true rfl, decide_eq_true rfl]
    · rw [decide_eq_false h, decide_eq_false fun z => h (V.str.inj z)]
  rw [e]; exact q⟩
theorem w_seq (h : t ⟨u ⟨nx, rt, bk, ct⟩, rt, bk, ct⟩ σ H) : tSeq t u ⟨nx, rt, bk, ct⟩ σ H := h
theorem w_asg (h : te σ H fun x H1 => g x σ H1 nx) : tAsg te g ⟨nx, rt, bk, ct⟩ σ H := h
theorem w_name {Q : L2.St → Hp → Prop} (q : Q (σ.set i (some v)) H) : gName i v σ H Q := q
theorem w_ret (h : te σ H rt) : tRet te ⟨nx, rt, bk, ct⟩ σ H := h
theorem w_retN (h : rt .non H) : tRetN ⟨nx, rt, bk, ct⟩ σ H := h
theorem w_next (q : nx σ H) : tNext ⟨nx, rt, bk, ct⟩ σ H := q
theorem w_drop (h : te σ H fun _ H1 => nx σ H1) : tDrop te ⟨nx, rt, bk, ct⟩ σ H := h
theorem w_if (h : c σ H fun b H1 => if b = true then t ⟨nx, rt, bk, ct⟩ σ H1 else u ⟨nx, rt, bk, ct⟩ σ H1) : tIfS c t u ⟨nx, rt, bk, ct⟩ σ H := h
theorem w_ifE (h : c σ H fun b H1 => if b = true then ta σ H1 Q else tb σ H1 Q) : tIf c ta tb σ H Q := h
theorem w_test {Q : Bool → Hp → Prop} (h : te σ H fun x H' => ∃ k, x = .bl k ∧ Q k H') : tTest te σ H Q := h
theorem w_B {Q : Bool → Hp → Prop} (h : te σ H fun x H' => ∃ k, x = .bl k ∧ Q k H') : tB te σ H Q := h
theorem w_and {Q : Bool → Hp → Prop} (h : c σ H fun b H1 => if b = true then c' σ H1 Q else Q false H1) : tAnd c c' σ H Q := h
theorem w_or {Q : Bool → Hp → Prop} (h : c σ H fun b H1 => if b = true then Q true H1 else c' σ H1 Q) : tOr c c' σ H Q := h
theorem w_not {Q : Bool → Hp → Prop} (h : c σ H fun b H1 => Q (!b) H1) : tNot c σ H Q := h
theorem w_andV (h : ta σ H fun x H1 => ∃ c, x = .bl c ∧ if c = true then tb σ H1 Q else Q (.bl false) H1) : tAndV ta tb σ H Q := h
theorem w_orV (h : ta σ H fun x H1 => ∃ c, x = .bl c ∧ if c = true then Q (.bl true) H1 else tb σ H1 Q) : tOrV ta tb σ H Q := h
theorem w_notV (h : ta σ H fun x H1 => ∃ c, x = .bl c ∧ Q (.bl (!c)) H1) : tNotV ta σ H Q := h
theorem w_bl {b : Bool} {Q : Bool → Prop} (q : Q b) : ∃ k, V.bl b = .bl k ∧ Q k := ⟨b, rfl, q⟩
theorem w_dec {p A B : Prop} [Decidable p] (h1 : p → A) (h2 : ¬ p → B) : if decide p = true then A else B := by
  by_cases h : p
  · rw [if_pos (decide_eq_true h)]; exact h1 h
  · rw [if_neg (by simp [h])]; exact h2 h
theorem w_decN {p A B : Prop} [Decidable p] (h1 : ¬ p → A) (h2 : p → B) : if (!decide p) = true then A else B := by
  by_cases h : p
  · rw [if_neg (by simp [h])]; exact h2 h
  · rw [if_pos (by simp [h])]; exact h1 h
theorem w_bool {b : Bool} {A B : Prop} (h1 : b = true → A) (h2 : b = false → B) : if b = true then A else B := by
  cases b with
  | true => exact h1 rfl
  | false => exact h2 rfl
theorem w_boolN {b : Bool} {A B : Prop} (h1 : b = false → A) (h2 : b = true → B) : if (!b) = true then A else B := by
  cases b with
  | true => exact h2 rfl
  | false => exact h1 rfl
theorem w_nT {A B : Prop} (h : B) : if (!true) = true then A else B := iteF h
theorem w_nF {A B : Prop} (h : A) : if (!false) = true then A else B := iteT h
theorem w_yes {b : Bool} {A B : Prop} (e : b = true) (h : A) : if b = true then A else B := by rw [if_pos e]; exact h
theorem w_no {b : Bool} {A B : Prop} (e : b = false) (h : B) : if b = true then A else B := by rw [e, if_neg Bool.false_ne_true]; exact h
theorem w_cons {tr : TA} {Q : List V → Hp → Prop} (h : te σ H fun x H1 => tr σ H1 fun xs H2 => Q (x :: xs) H2) : tCons te tr σ H Q := h
theorem w_nil {Q : List V → Hp → Prop} (q : Q [] H) : tNil σ H Q := q
theorem w_lst {t : TA} (h : t σ H fun xs H1 => xs.length ≤ sizeLine ∧ ∀ p, H1 p = none → Q (.ref p) (upd H1 p (.lst xs))) : tLst t σ H Q := h
theorem w_tup {t : TA} (h : t σ H fun xs H1 => xs.length ≤ sizeLine ∧ ∀ p, H1 p = none → Q (.ref p) (upd H1 p (.tup xs))) : tTup t σ H Q := h
theorem w_new {n : Nat} {P : Prop} (h : P) (hn : Nat.ble n 1000 = true := by with_unfolding_all rfl) : n ≤ sizeLine ∧ P := ⟨Nat.le_trans (Nat.le_of_ble_eq_true hn) (by decide), h⟩
theorem w_CB {r : List V → Hp → VK → Prop} {t : TA} (h : t σ H fun vs H1 => r vs H1 Q) : tCB r t σ H Q := h
theorem w_call {sp : Sp} {dvs : List V} {E : XK} {t : TA} (h : t σ H fun vs H1 => sp (vs ++ dvs) H1 Q E) : tCall sp dvs E t σ H Q := h
theorem w_meth {C : Addr} {m : Str} {sp : Sp} {dvs : List V} {E : XK} {t : TA} (h : ta σ H fun x H1 => ∃ a dx fs, x = .ref a ∧ H1 a = some (.ins C dx fs) ∧ fs.lookup m = none ∧ t σ H1 fun vs H2 => sp (x :: (vs ++ dvs)) H2 Q E) :
    tMeth C m sp dvs E ta t σ H Q := h
theorem w_make {C : Addr} {sp : Sp} {dvs : List V} {E : XK} {t : TA} (h : t σ H fun vs H1 => ∀ x dx, H1 x = none → H1 dx = none → dx ≠ x → sp (.ref x :: (vs ++ dvs)) (upd (upd H1 dx (.own x)) x (.ins C dx [])) (fun v H2 => v = .non ∧ Q (.ref x) H2) E) :
    tMake C sp dvs E t σ H Q := h
theorem w_fld {f : Str} (h : ta σ H fun x H1 => ∃ a C dx fs v, x = .ref a ∧ H1 a = some (.ins C dx fs) ∧ Cls K C ∧ NoAttr K C f ∧ fs.lookup f = some v ∧ Q v H1) : tFld K ta f σ H Q := h
theorem w_sfld {f : Str} (h : tb σ H fun y H1 => ta σ H1 fun x H2 => ∃ a C dx fs, x = .ref a ∧ H2 a = some (.ins C dx fs) ∧ Cls K C ∧ NoAttr K C f ∧ fs.length < 1000 ∧ nx σ (upd H2 a (.ins C dx (putF f y fs)))) : sFld K ta tb f ⟨nx, rt, bk, ct⟩ σ H := h
theorem w_BM {T : String} {r : V → List V → Hp → VK → Prop} {t : TA} (h : ta σ H fun x H1 => tyV K T x H1 ∧ t σ H1 fun xs H2 => r x xs H2 Q) : tBM K T r ta t σ H Q := h
theorem w_BM0 {T : String} {r : V → List V → Hp → VK → Prop} (h : ta σ H fun x H1 => tyV K T x H1 ∧ r x [] H1 Q) : tBM0 K T r ta σ H Q := h
theorem w_tyL {p : Addr} {xs : List V} (h : SqL K H p xs) {P : Prop} (q : P) : tyV K "list" (.ref p) H ∧ P := ⟨.inl ⟨rfl, _, h⟩, q⟩
theorem w_tyS {x : Str} {P : Prop} (q : P) : tyV K "str" (.str x) H ∧ P := ⟨rfl, q⟩
theorem w_append {l : Addr} {xs : List V} {y : V} (h : H l = some (.lst xs)) (hz : xs.length < sizeLine) (q : Q .non (upd H l (.lst (xs ++ [y])))) : rAppend (.ref l) [y] H Q := ⟨l, xs, y, rfl, rfl, h, hz, q⟩
theorem w_ixL {p : Addr} {xs : List V} {i : Int} (h : SqL K H p xs) (ha : atI xs i = some v) (q : Q v H) : rIxL K (.ref p) (.int i) H Q := ⟨p, xs, i, v, rfl, rfl, h, ha, q⟩
theorem w_ixT {p : Addr} {xs : List V} {i : Int} (h : SqT K H p xs) (ha : atI xs i = some v) (q : Q v H) : rIxT K (.ref p) (.int i) H Q := ⟨p, xs, i, v, rfl, rfl, h, ha, q⟩
theorem w_cat {a b : Addr} {xs ys : List V} (h : H a = some (.lst xs)) (h' : H b = some (.lst ys)) (hz : xs.length + ys.length ≤ sizeLine) (q : ∀ p, H p = none → Q (.ref p) (upd H p (.lst (xs ++ ys)))) : rCat (.ref a) (.ref b) H Q :=
  ⟨a, b, xs, ys, rfl, rfl, h, h', hz, q⟩
theorem w_sub {Q : L2.St → Hp → Prop} {t : V → V → V → Hp → (Hp → Prop) → Prop} {v : V} (h : ta σ H fun o H1 => tb σ H1 fun i H2 => t o i v H2 fun H3 => Q σ H3) : gSub ta tb t v σ H Q := h
theorem w_setL {p : Addr} {xs : List V} {k : Int} {j : Nat} {v : V} {Q : Hp → Prop} (h : H p = some (.lst xs)) (hj : ixN xs.length k = some j) (q : Q (upd H p (.lst (xs.set j v)))) : rSetL (.ref p) (.int k) v H Q := ⟨p, xs, k, j, rfl, rfl, h, hj, q⟩
theorem w_len {p : Addr} {xs : List V} (h : SqL K H p xs) (q : Q (.int xs.length) H) : ∃ p' ys, [V.ref p] = [V.ref p'] ∧ (SqL K H p' ys ∨ SqT K H p' ys) ∧ Q (.int (List.length ys)) H := ⟨p, xs, rfl, .inl h, q⟩
theorem w_lenT {p : Addr} {xs : List V} (h : SqT K H p xs) (q : Q (.int xs.length) H) : ∃ p' ys, [V.ref p] = [V.ref p'] ∧ (SqL K H p' ys ∨ SqT K H p' ys) ∧ Q (.int (List.length ys)) H := ⟨p, xs, rfl, .inr h, q⟩
theorem w_max2 {i j : Int} (q : Q (.int (max i j)) H) : ∃ i' j', [V.int i, V.int j] = [V.int i', V.int j'] ∧ Q (.int (if j' > i' then j' else i')) H := ⟨i, j, rfl, by
  have e : (if j > i then j else i) = max i j := by
    by_cases h : j > i
    · rw [if_pos h]; omega
    · rw [if_neg h]; omega
  rw [e]; exact q⟩
theorem w_min2 {i j : Int} (q : Q (.int (min i j)) H) : ∃ i' j', [V.int i, V.int j] = [V.int i', V.int j'] ∧ Q (.int (if j' < i' then j' else i')) H := ⟨i, j, rfl, by
  have e : (if j < i then j else i) = min i j := by
    by_cases h : j < i
    · rw [if_pos h]; omega
    · rw [if_neg h]; omega
  rw [e]; exact q⟩
/-! loops -/
theorem w_for {wi : TI} {tb : TS} (h : wi σ H fun J H1 => ∃ W : Nat → Nat → L2.St → Hp → Prop, (∃ m, W 0 m σ H1) ∧ ∀ i m σ H, W i m σ H → (J.stop i H ∧ nx σ H) ∨ (J.go i H ∧ ∃ N : L2.St → Hp → Prop, (∀ σ' H', N σ' H' → ∃ m', m' < m ∧ W (i + 1) m' σ' H') ∧
    ∀ x H', J.yld i H x H' → g x σ H' fun σ2 H2 => tb ⟨N, rt, nx, N⟩ σ2 H2)) : tFor wi g tb ⟨nx, rt, bk, ct⟩ σ H := h
theorem w_iList {tl : TE} {R : It → Hp → Prop} (h : tl σ H fun x H1 => ∃ a, x = .ref a ∧ (∃ xs, SqL K H1 a xs) ∧ R (Itl K a) H1) : iList K tl σ H R := h
theorem w_iTup {tl : TE} {R : It → Hp → Prop} (h : tl σ H fun x H1 => ∃ a, x = .ref a ∧ (∃ xs, SqT K H1 a xs) ∧ R (Itt K a) H1) : iTup K tl σ H R := h
theorem w_iRng1 {ta : TA} {R : It → Hp → Prop} (h : ta σ H fun vs H1 => ∃ j : Int, vs = [.int j] ∧ -(2 ^ 62) ≤ j ∧ j < 2 ^ 62 ∧ R (Itr 0 j.toNat) H1) : iRng1 ta σ H R := h
theorem w_iRng2 {ta : TA} {R : It → Hp → Prop} (h : ta σ H fun vs H1 => ∃ i j : Int, vs = [.int i, .int j] ∧ (-(2 ^ 62) ≤ i ∧ i < 2 ^ 62 ∧ -(2 ^ 62) ≤ j ∧ j < 2 ^ 62) ∧ R (Itr i (j - i).toNat) H1) : iRng2 ta σ H R := h
/-- over a list that stays; behind the list's own steps -/
theorem f_list {a : Addr} {xs : List V} {tb : TS} (hx : SqL K H a xs) (Pv : Nat → L2.St → Hp → Prop) (h0 : Pv 0 σ H) (hl : ∀ i σ H, i ≤ xs.length → Pv i σ H → SqL K H a xs)
    (hs : ∀ i x σ H, xs[i]? = some x → Pv i σ H → g x σ H fun σ2 H2 => tb ⟨Pv (i + 1), rt, nx, Pv (i + 1)⟩ σ2 H2) (hd : ∀ σ H, Pv xs.length σ H → nx σ H) :
    ∃ a', V.ref a = .ref a' ∧ (∃ xs, SqL K H a' xs) ∧ ∃ W : Nat → Nat → L2.St → Hp → Prop, (∃ m, W 0 m σ H) ∧ ∀ i m σ H, W i m σ H → ((Itl K a').stop i H ∧ nx σ H) ∨ ((Itl K a').go i H ∧ ∃ N : L2.St → Hp → Prop, (∀ σ' H', N σ' H' → ∃ m', m' < m ∧ W (i + 1) m' σ' H') ∧
    ∀ x H', (Itl K a').yld i H x H' → g x σ H' fun σ2 H2 => tb ⟨N, rt, nx, N⟩ σ2 H2) :=
  ⟨a, rfl, ⟨xs, hx⟩, for_list (D := ⟨nx, rt, fun _ _ => False, fun _ _ => False⟩) Pv h0 hl hs hd⟩
theorem f_tup {a : Addr} {xs : List V} {tb : TS} (hx : SqT K H a xs) (Pv : Nat → L2.St → Hp → Prop) (h0 : Pv 0 σ H) (hl : ∀ i σ H, i ≤ xs.length → Pv i σ H → SqT K H a xs)
    (hs : ∀ i x σ H, xs[i]? = some x → Pv i σ H → g x σ H fun σ2 H2 => tb ⟨Pv (i + 1), rt, nx, Pv (i + 1)⟩ σ2 H2) (hd : ∀ σ H, Pv xs.length σ H → nx σ H) :
    ∃ a', V.ref a = .ref a' ∧ (∃ xs, SqT K H a' xs) ∧ ∃ W : Nat → Nat → L2.St → Hp → Prop, (∃ m, W 0 m σ H) ∧ ∀ i m σ H, W i m σ H → ((Itt K a').stop i H ∧ nx σ H) ∨ ((Itt K a').go i H ∧ ∃ N : L2.St → Hp → Prop, (∀ σ' H', N σ' H' → ∃ m', m' < m ∧ W (i + 1) m' σ' H') ∧
    ∀ x H', (Itt K a').yld i H x H' → g x σ H' fun σ2 H2 => tb ⟨N, rt, nx, N⟩ σ2 H2) :=
  ⟨a, rfl, ⟨xs, hx⟩, for_tup (D := ⟨nx, rt, fun _ _ => False, fun _ _ => False⟩) Pv h0 hl hs hd⟩
theorem f_rng1 {n : Nat} {z : Int} {tb : TS} (hz : z = (n : Int)) (hn : n ≤ 100000) (Pv : Nat → L2.St → Hp → Prop) (h0 : Pv 0 σ H)
    (hs : ∀ (i : Nat) σ H, i < n → Pv i σ H → g (.int (i : Int)) σ H fun σ2 H2 => tb ⟨Pv (i + 1), rt, nx, Pv (i + 1)⟩ σ2 H2) (hd : ∀ σ H, Pv n σ H → nx σ H) :
    ∃ j : Int, [V.int z] = [V.int j] ∧ -(2 ^ 62) ≤ j ∧ j < 2 ^ 62 ∧ ∃ W : Nat → Nat → L2.St → Hp → Prop, (∃ m, W 0 m σ H) ∧ ∀ i m σ H, W i m σ H → ((Itr 0 j.toNat).stop i H ∧ nx σ H) ∨ ((Itr 0 j.toNat).go i H ∧ ∃ N : L2.St → Hp → Prop,
    (∀ σ' H', N σ' H' → ∃ m', m' < m ∧ W (i + 1) m' σ' H') ∧ ∀ x H', (Itr 0 j.toNat).yld i H x H' → g x σ H' fun σ2 H2 => tb ⟨N, rt, nx, N⟩ σ2 H2) := by
  subst hz
  refine ⟨n, rfl, by omega, by omega, ?_⟩
  refine for_range (D := ⟨nx, rt, fun _ _ => False, fun _ _ => False⟩) (lo := 0) (n := (n : Int).toNat) Pv h0 (fun i σ' H' hi p => ?_) (fun σ' H' p => ?_)
  · have e : (0 : Int) + (i : Int) = (i : Int) := Int.zero_add _
    rw [e]; exact hs i σ' H' (by omega) p
  · have e : ((n : Int).toNat) = n := by omega
    rw [e] at p; exact hd σ' H' p
theorem f_rng2 {n : Nat} {lo hi : Int} {tb : TS} (hz : hi - lo = (n : Int)) (hb : -100000 ≤ lo ∧ lo ≤ 100000) (hn : n ≤ 100000) (Pv : Nat → L2.St → Hp → Prop) (h0 : Pv 0 σ H)
    (hs : ∀ (i : Nat) σ H, i < n → Pv i σ H → g (.int (lo + (i : Int))) σ H fun σ2 H2 => tb ⟨Pv (i + 1), rt, nx, Pv (i + 1)⟩ σ2 H2) (hd : ∀ σ H, Pv n σ H → nx σ H) :
    ∃ i j : Int, [V.int lo, V.int hi] = [V.int i, V.int j] ∧ (-(2 ^ 62) ≤ i ∧ i < 2 ^ 62 ∧ -(2 ^ 62) ≤ j ∧ j < 2 ^ 62) ∧ ∃ W : Nat → Nat → L2.St → Hp → Prop, (∃ m, W 0 m σ H) ∧ ∀ i' m σ H, W i' m σ H → ((Itr i (j - i).toNat).stop i' H ∧ nx σ H) ∨
    ((Itr i (j - i).toNat).go i' H ∧ ∃ N : L2.St → Hp → Prop, (∀ σ' H', N σ' H' → ∃ m', m' < m ∧ W (i' + 1) m' σ' H') ∧ ∀ x H', (Itr i (j - i).toNat).yld i' H x H' → g x σ H' fun σ2 H2 => tb ⟨N, rt, nx, N⟩ σ2 H2) := by
  refine ⟨lo, hi, rfl, by omega, ?_⟩
  have e : (hi - lo).toNat = n := by omega
  rw [e]
  exact for_range (D := ⟨nx, rt, fun _ _ => False, fun _ _ => False⟩) (lo := lo) (n := n) Pv h0 hs hd
/-- while, by a word that falls -/
theorem f_while {tw : TS} (W : Nat → L2.St → Hp → Prop) (m0 : Nat) (h0 : W m0 σ H)
    (hs : ∀ m σ' H', W m σ' H' → c σ' H' fun b H1 => if b = true then ∃ N : L2.St → Hp → Prop, (∀ σ' H', N σ' H' → ∃ m', m' < m ∧ W m' σ' H') ∧ tw ⟨N, rt, nx, N⟩ σ' H1 else nx σ' H1) : tWhile c tw ⟨nx, rt, bk, ct⟩ σ H := ⟨W, ⟨m0, h0⟩, hs⟩
theorem w_turn {tw : TS} {W : Nat → L2.St → Hp → Prop} {m : Nat} (h : tw ⟨fun σ2 H2 => ∃ m', m' < m ∧ W m' σ2 H2, rt, nx, fun σ2 H2 => ∃ m', m' < m ∧ W m' σ2 H2⟩ σ H) :
    ∃ N : L2.St → Hp → Prop, (∀ σ' H', N σ' H' → ∃ m', m' < m ∧ W m' σ' H') ∧ tw ⟨N, rt, nx, N⟩ σ H := ⟨_, fun _ _ z => z, h⟩
/-! comprehensions -/
theorem w_yesT {Q : Bool → Hp → Prop} (q : Q true H) : tYes σ H Q := q
theorem w_wp {σ2 : L2.St} {vs : List Nat} {P : Prop} (h : P) (e : wipe σ2 vs = wipe σ vs := by with_unfolding_all rfl) : wipe σ2 vs = wipe σ vs ∧ P := ⟨e, h⟩
theorem w_lc {wi : TI} {tt : TT} {vs : List Nat} (h : wi σ H fun J H1 => ∀ D, H1 D = none → ∃ W : Nat → Nat → Hp → Prop, (∃ m, W 0 m (upd H1 D (.lst []))) ∧ ∀ i m H, W i m H →
    (J.stop i H ∧ Q (.ref D) H) ∨ (J.go i H ∧ ∃ Nx : Hp → Prop, (∀ H', Nx H' → ∃ m', m' < m ∧ W (i + 1) m' H') ∧ ∀ x H', J.yld i H x H' → g x (wipe σ vs) H' fun σ2 H2 => wipe σ2 vs = wipe σ vs ∧ tt σ2 H2 fun b H3 =>
    if b = true then te σ2 H3 fun y H4 => ∃ acc, H4 D = some (.lst acc) ∧ acc.length < sizeLine ∧ Nx (upd H4 D (.lst (acc ++ [y]))) else Nx H3)) : tLc wi g tt te vs σ H Q := h
/-- over a list that stays: Pv D i H, the list made so far at D -/
theorem c_list {R : Addr → Hp → Prop} {a : Addr} {xs : List V} {tt : TT} {vs : List Nat} (hx : SqL K H a xs) (Pv : Addr → Nat → Hp → Prop) (h0 : ∀ D H', H D = none → Fr [] H H' → H' D = some (.lst []) → Pv D 0 H')
    (hl : ∀ D i H', i ≤ xs.length → Pv D i H' → SqL K H' a xs)
    (hs : ∀ D i x H', xs[i]? = some x → Pv D i H' → g x (wipe σ vs) H' fun σ2 H2 => wipe σ2 vs = wipe σ vs ∧ tt σ2 H2 fun b H3 =>
      if b = true then te σ2 H3 fun y H4 => ∃ acc, H4 D = some (.lst acc) ∧ acc.length < sizeLine ∧ Pv D (i + 1) (upd H4 D (.lst (acc ++ [y]))) else Pv D (i + 1) H3)
    (hd : ∀ D H', H D = none → Pv D xs.length H' → R D H') :
    ∃ a', V.ref a = .ref a' ∧ (∃ xs, SqL K H a' xs) ∧ ∀ D, H D = none → ∃ W : Nat → Nat → Hp → Prop, (∃ m, W 0 m (upd H D (.lst []))) ∧ ∀ i m H', W i m H' →
    ((Itl K a').stop i H' ∧ R D H') ∨ ((Itl K a').go i H' ∧ ∃ Nx : Hp → Prop, (∀ H', Nx H' → ∃ m', m' < m ∧ W (i + 1) m' H') ∧ ∀ x H2, (Itl K a').yld i H' x H2 → g x (wipe σ vs) H2 fun σ2 H2 => wipe σ2 vs = wipe σ vs ∧ tt σ2 H2 fun b H3 =>
    if b = true then te σ2 H3 fun y H4 => ∃ acc, H4 D = some (.lst acc) ∧ acc.length < sizeLine ∧ Nx (upd H4 D (.lst (acc ++ [y]))) else Nx H3) :=
  ⟨a, rfl, ⟨xs, hx⟩, fun D hD => lc_list (xs := xs) (Pv D) (h0 D _ hD (Fr.new hD) upd_same) (hl D) (hs D) (fun H' p => hd D H' hD p)⟩
theorem c_tup {R : Addr → Hp → Prop} {a : Addr} {xs : List V} {tt : TT} {vs : List Nat} (hx : SqT K H a xs) (Pv : Addr → Nat → Hp → Prop) (h0 : ∀ D H', H D = none → Fr [] H H' → H' D = some (.lst []) → Pv D 0 H')
    (hl : ∀ D i H', i ≤ xs.length → Pv D i H' → SqT K H' a xs)
    (hs : ∀ D i x H', xs[i]? = some x → Pv D i H' → g x (wipe σ vs) H' fun σ2 H2 => wipe σ2 vs = wipe σ vs ∧ tt σ2 H2 fun b H3 =>
      if b = true then te σ2 H3 fun y H4 => ∃ acc, H4 D = some (.lst acc) ∧ acc.length < sizeLine ∧ Pv D (i + 1) (upd H4 D (.lst (acc ++ [y]))) else Pv D (i + 1) H3)
    (hd : ∀ D H', H D = none → Pv D xs.length H' → R D H') :
    ∃ a', V.ref a = .ref a' ∧ (∃ xs, SqT K H a' xs) ∧ ∀ D, H D = none → ∃ W : Nat → Nat → Hp → Prop, (∃ m, W 0 m (upd H D (.lst []))) ∧ ∀ i m H', W i m H' →
    ((Itt K a').stop i H' ∧ R D H') ∨ ((Itt K a').go i H' ∧ ∃ Nx : Hp → Prop, (∀ H', Nx H' → ∃ m', m' < m ∧ W (i + 1) m' H') ∧ ∀ x H2, (Itt K a').yld i H' x H2 → g x (wipe σ vs) H2 fun σ2 H2 => wipe σ2 vs = wipe σ vs ∧ tt σ2 H2 fun b H3 =>
    if b = true then te σ2 H3 fun y H4 => ∃ acc, H4 D = some (.lst acc) ∧ acc.length < sizeLine ∧ Nx (upd H4 D (.lst (acc ++ [y]))) else Nx H3) :=
  ⟨a, rfl, ⟨xs, hx⟩, fun D hD => lc_tup (xs := xs) (Pv D) (h0 D _ hD (Fr.new hD) upd_same) (hl D) (hs D) (fun H' p => hd D H' hD p)⟩
theorem c_rng1 {R : Addr → Hp → Prop} {n : Nat} {z : Int} {tt : TT} {vs : List Nat} (hz : z = (n : Int)) (hn : n ≤ 100000) (Pv : Addr → Nat → Hp → Prop) (h0 : ∀ D H', H D = none → Fr [] H H' → H' D = some (.lst []) → Pv D 0 H')
    (hs : ∀ D (i : Nat) H', i < n → Pv D i H' → g (.int (i : Int)) (wipe σ vs) H' fun σ2 H2 => wipe σ2 vs = wipe σ vs ∧ tt σ2 H2 fun b H3 =>
      if b = true then te σ2 H3 fun y H4 => ∃ acc, H4 D = some (.lst acc) ∧ acc.length < sizeLine ∧ Pv D (i + 1) (upd H4 D (.lst (acc ++ [y]))) else Pv D (i + 1) H3)
    (hd : ∀ D H', H D = none → Pv D n H' → R D H') :
    ∃ j : Int, [V.int z] = [V.int j] ∧ -(2 ^ 62) ≤ j ∧ j < 2 ^ 62 ∧ ∀ D, H D = none → ∃ W : Nat → Nat → Hp → Prop, (∃ m, W 0 m (upd H D (.lst []))) ∧ ∀ i m H', W i m H' →
    ((Itr 0 j.toNat).stop i H' ∧ R D H') ∨ ((Itr 0 j.toNat).go i H' ∧ ∃ Nx : Hp → Prop, (∀ H', Nx H' → ∃ m', m' < m ∧ W (i + 1) m' H') ∧ ∀ x H2, (Itr 0 j.toNat).yld i H' x H2 → g x (wipe σ vs) H2 fun σ2 H2 => wipe σ2 vs = wipe σ vs ∧ tt σ2 H2 fun b H3 =>
    if b = true then te σ2 H3 fun y H4 => ∃ acc, H4 D = some (.lst acc) ∧ acc.length < sizeLine ∧ Nx (upd H4 D (.lst (acc ++ [y]))) else Nx H3) := by
  subst hz
  refine ⟨n, rfl, by omega, by omega, fun D hD => ?_⟩
  refine lc_range (lo := 0) (n := (n : Int).toNat) (Pv D) (h0 D _ hD (Fr.new hD) upd_same) (fun i H' hi p => ?_) (fun H' p => hd D H' hD ?_)
  · have e : (0 : Int) + (i : Int) = (i : Int) := Int.zero_add _
    rw [e]; exact hs D i H' (by omega) p
  · have e : ((n : Int).toNat) = n := by omega
    rw [e] at p; exact p
end
end G

/-! GB: defs, methods, classes by their promises. -/
namespace G
open PySem L2

/-! ### promises by the number of arguments -/
abbrev P0 := Hp → VK → XK → Prop
abbrev P1 := V → P0
abbrev P2' := V → P1
abbrev P3' := V → P2'
abbrev P4' := V → P3'
abbrev P5' := V → P4'
def sp0 (f : P0) : Sp := fun vs H Q E => vs = [] ∧ f H Q E
def sp1 (f : P1) : Sp := fun vs H Q E => ∃ a, vs = [a] ∧ f a H Q E
def sp2 (f : P2') : Sp := fun vs H Q E => ∃ a b, vs = [a, b] ∧ f a b H Q E
def sp3 (f : P3') : Sp := fun vs H Q E => ∃ a b c, vs = [a, b, c] ∧ f a b c H Q E
def sp4 (f : P4') : Sp := fun vs H Q E => ∃ a b c d, vs = [a, b, c, d] ∧ f a b c d H Q E
def sp5 (f : P5') : Sp := fun vs H Q E => ∃ a b c d e, vs = [a, b, c, d, e] ∧ f a b c d e H Q E
section
variable {H : Hp} {Q : VK} {E : XK} {a b c d e : V}
theorem w_sp0 {f : P0} (h : f H Q E) : sp0 f ([] ++ []) H Q E := ⟨rfl, h⟩
theorem w_sp1 {f : P1} (h : f a H Q E) : sp1 f ([a] ++ []) H Q E := ⟨a, rfl, h⟩
theorem w_sp2 {f : P2'} (h : f a b H Q E) : sp2 f ([a, b] ++ []) H Q E := ⟨a, b, rfl, h⟩
theorem w_sp3 {f : P3'} (h : f a b c H Q E) : sp3 f ([a, b, c] ++ []) H Q E := ⟨a, b, c, rfl, h⟩
theorem w_sp4 {f : P4'} (h : f a b c d H Q E) : sp4 f ([a, b, c, d] ++ []) H Q E := ⟨a, b, c, d, rfl, h⟩
theorem w_sp5 {f : P5'} (h : f a b c d e H Q E) : sp5 f ([a, b, c, d, e] ++ []) H Q E := ⟨a, b, c, d, e, rfl, h⟩
theorem w_sm1 {f : P1} (h : f a H Q E) : sp1 f (a :: ([] ++ [])) H Q E := ⟨a, rfl, h⟩
theorem w_sm2 {f : P2'} (h : f a b H Q E) : sp2 f (a :: ([b] ++ [])) H Q E := ⟨a, b, rfl, h⟩
theorem w_sm3 {f : P3'} (h : f a b c H Q E) : sp3 f (a :: ([b, c] ++ [])) H Q E := ⟨a, b, c, rfl, h⟩
theorem w_sm4 {f : P4'} (h : f a b c d H Q E) : sp4 f (a :: ([b, c, d] ++ [])) H Q E := ⟨a, b, c, d, rfl, h⟩
theorem w_st1 {f : P1} (h : f a H Q E) : sp1 f [a] H Q E := ⟨a, rfl, h⟩
theorem w_st2 {f : P2'} (h : f a b H Q E) : sp2 f [a, b] H Q E := ⟨a, b, rfl, h⟩
theorem w_st3 {f : P3'} (h : f a b c H Q E) : sp3 f [a, b, c] H Q E := ⟨a, b, c, rfl, h⟩
end

section
variable (P : Program) (w : World) (K : PySem.W.Frag) (mg : Str → Option Value) (base : Heap) (CX : CXT) (k : Nat)
/-- the def that the module calls x keeps sp -/
def DefOk (x : Str) (ps : List Str) (sp : Sp) : Prop := ∃ (f : Addr) (fd : FuncData), mg x = some (.ref f) ∧ PySem.W.keepIn K (.ref f) = true ∧ Binds K fd ps [] ∧ FnOk P w K mg base CX k f fd ps sp
/-- the method m of the class at C keeps sp -/
def MtOk (C : Addr) (m : Str) (ps : List Str) (sp : Sp) : Prop := ∃ (f : Addr) (fd : FuncData), Cls K C ∧ Meth K C m f ∧ Binds K fd ps [] ∧ FnOk P w K mg base CX k f fd ps sp
/-- the class at C, by its name x, is made; its __init__ keeps sp -/
def MkOk (C : Addr) (x : Str) (ps : List Str) (sp : Sp) : Prop := ∃ (f : Addr) (fd : FuncData), Mk K C f ∧ mg x = some (.ref C) ∧ Binds K fd ps [] ∧ FnOk P w K mg base CX k f fd ps sp
end
section
variable {P : Program} {w : World} {K : PySem.W.Frag} {mg : Str → Option Value} {base : Heap} {CX : CXT} {k j : Nat} {x m : Str} {ps : List Str} {sp sp' : Sp} {C : Addr}
theorem DefOk.mono (h : DefOk P w K mg base CX j x ps sp) (l : j ≤ k) : DefOk P w K mg base CX k x ps sp := by
  obtain ⟨f, fd, a, b, c, d⟩ := h
  exact ⟨f, fd, a, b, c, d.mono l⟩
theorem MtOk.mono (h : MtOk P w K mg base CX j C m ps sp) (l : j ≤ k) : MtOk P w K mg base CX k C m ps sp := by
  obtain ⟨f, fd, a, b, c, d⟩ := h
  exact ⟨f, fd, a, b, c, d.mono l⟩
theorem DefOk.imp (h : DefOk P w K mg base CX k x ps sp) (i : ∀ vs H Q E, sp' vs H Q E → sp vs H Q E) : DefOk P w K mg base CX k x ps sp' := by
  obtain ⟨f, fd, a, b, c, d⟩ := h
  exact ⟨f, fd, a, b, c, d.imp i⟩
theorem MtOk.imp (h : MtOk P w K mg base CX k C m ps sp) (i : ∀ vs H Q E, sp' vs H Q E → sp vs H Q E) : MtOk P w K mg base CX k C m ps sp' := by
  obtain ⟨f, fd, a, b, c, d⟩ := h
  exact ⟨f, fd, a, b, c, d.imp i⟩
/-- the text of a def, of a method, of an __init__ -/
def Src (K : PySem.W.Frag) (mg : Str → Option Value) (x : Str) (st : Stmt) (ps : List Str) : Prop := ∃ (f : Addr) (fd : FuncData), mg x = some (.ref f) ∧ Fun K x x st f fd ∧ Binds K fd ps []
def SrcM (K : PySem.W.Frag) (C : Addr) (m qual : Str) (st : Stmt) (ps : List Str) : Prop := ∃ (f : Addr) (fd : FuncData), Cls K C ∧ Meth K C m f ∧ Fun K m qual st f fd ∧ Binds K fd ps []
def SrcI (K : PySem.W.Frag) (mg : Str → Option Value) (C : Addr) (x qual : Str) (st : Stmt) (ps : List Str) : Prop := ∃ (f : Addr) (fd : FuncData), Mk K C f ∧ mg x = some (.ref C) ∧ Fun K "__init__" qual st f fd ∧ Binds K fd ps []
/-- what a body must show -/
def Body (P : Program) (w : World) (K : PySem.W.Frag) (mg : Str → Option Value) (base : Heap) (CX : CXT) (k : Nat) (N : List Str) (qual : Str) (st : Stmt) (f : Addr) (sp : Sp) : Prop :=
  ∀ (cdv : Value) (A : Around) (outer : List Env) (s : Shared) (H : Hp) (vs : List V) (Q : VK) (E : XK), Room k (A.deeper (PyProof.Rows.envOfC qual (defScope st) s.heap.objs.size f cdv)) → sp vs H Q E →
    ∃ t, PSs (cxOf CX P w K mg base N qual (defScope st) f cdv A outer s H E) (defBody st) t ∧ t { nx := fun _ H' => Q .non H', rt := Q } (start N vs) H
def Body0 (P : Program) (w : World) (K : PySem.W.Frag) (mg : Str → Option Value) (base : Heap) (k : Nat) (N : List Str) (qual : Str) (st : Stmt) (f : Addr) (sp : Sp) : Prop :=
  ∀ (cdv : Value) (A : Around) (outer : List Env) (s : Shared) (H : Hp) (vs : List V) (Q : VK) (E : XK), Room k (A.deeper (PyProof.Rows.envOfC qual (defScope st) s.heap.objs.size f cdv)) → sp vs H Q E →
    ∃ t, PSs (cxOf CX0 P w K mg base N qual (defScope st) f cdv A outer s H E).nox (defBody st) t ∧ t { nx := fun _ H' => Q .non H', rt := Q } (start N vs) H
/-- how many arguments: any of sp0 .. sp5 -/
def Len (sp : Sp) (n : Nat) : Prop := ∀ vs H Q E, sp vs H Q E → vs.length = n
theorem len0 {f : P0} : Len (sp0 f) 0 := fun _ _ _ _ ⟨e, _⟩ => by rw [e]; rfl
theorem len1 {f : P1} : Len (sp1 f) 1 := fun _ _ _ _ ⟨_, e, _⟩ => by rw [e]; rfl
theorem len2 {f : P2'} : Len (sp2 f) 2 := fun _ _ _ _ ⟨_, _, e, _⟩ => by rw [e]; rfl
theorem len3 {f : P3'} : Len (sp3 f) 3 := fun _ _ _ _ ⟨_, _, _, e, _⟩ => by rw [e]; rfl
theorem len4 {f : P4'} : Len (sp4 f) 4 := fun _ _ _ _ ⟨_, _, _, _, e, _⟩ => by rw [e]; rfl
theorem len5 {f : P5'} : Len (sp5 f) 5 := fun _ _ _ _ ⟨_, _, _, _, _, e, _⟩ => by rw [e]; rfl
variable {st : Stmt} {N : List Str} {qual : Str}
theorem Src.ok (S : Src K mg x st ps) (sc : FnScope N ps (defScope st)) (len : Len sp ps.length) (h : ∀ f, Body0 P w K mg base k N x st f sp) : DefOk P w K mg base CX0 (k + 1) x ps sp := by
  obtain ⟨f, fd, a, b, c⟩ := S
  exact ⟨f, fd, a, b.kp, c, b.ok sc len (h f)⟩
theorem Src.okX (S : Src K mg x st ps) (sc : FnScope N ps (defScope st)) (len : Len sp ps.length) (h : ∀ f, Body P w K mg base (L2.CX P w) k N x st f sp) : DefOk P w K mg base (L2.CX P w) (k + 1) x ps sp := by
  obtain ⟨f, fd, a, b, c⟩ := S
  exact ⟨f, fd, a, b.kp, c, b.okX sc len (h f)⟩
theorem SrcM.ok (S : SrcM K C m qual st ps) (sc : FnScope N ps (defScope st)) (len : Len sp ps.length) (h : ∀ f, Body0 P w K mg base k N qual st f sp) : MtOk P w K mg base CX0 (k + 1) C m ps sp := by
  obtain ⟨f, fd, a, b, c, d⟩ := S
  exact ⟨f, fd, a, b, d, c.ok sc len (h f)⟩
theorem SrcM.okX (S : SrcM K C m qual st ps) (sc : FnScope N ps (defScope st)) (len : Len sp ps.length) (h : ∀ f, Body P w K mg base (L2.CX P w) k N qual st f sp) : MtOk P w K mg base (L2.CX P w) (k + 1) C m ps sp := by
  obtain ⟨f, fd, a, b, c, d⟩ := S
  exact ⟨f, fd, a, b, d, c.okX sc len (h f)⟩
theorem SrcI.ok (S : SrcI K mg C x qual st ps) (sc : FnScope N ps (defScope st)) (len : Len sp ps.length) (h : ∀ f, Body0 P w K mg base k N qual st f sp) : MkOk P w K mg base CX0 (k + 1) C x ps sp := by
  obtain ⟨f, fd, a, b, c, d⟩ := S
  exact ⟨f, fd, a, b, d, c.ok sc len (h f)⟩
end

/-! ### the calls -/
section
variable {X : Cx} {CX : CXT} {k : Nat} {C : Addr} {ps : List Str} {sp : Sp} {E : XK} {x m : Str} {p pos apos : Pos} {e o : Expr} {es : List Expr} {ta : TE} {t : TA}
theorem pe_fn (D : DefOk X.prog X.w X.K X.mg X.base CX k x ps sp) (hr : Room k X.A) (hx : Passes CX X E) (ha : PA X (e :: es) t) (hg : Gl X x := by rfl) (hdb : (x == ("__debug__" : Str)) = false := by decide)
    (he : starEach (e :: es) X.env = (false, eval e X.env) :: starEach es X.env := by rfl) (hpl : (backTo pos (starEach es X.env)).any (·.1) = false := by rfl) : PE X (.Call (.Name x p) (e :: es) [] pos) (tCall sp [] E t) := by
  obtain ⟨f, fd, a, b, c, d⟩ := D
  exact pe_call d hr hg a b c .nil hx ha hdb he hpl
theorem pe_fn0 (D : DefOk X.prog X.w X.K X.mg X.base CX k x ps sp) (hr : Room k X.A) (hx : Passes CX X E) (hg : Gl X x := by rfl) (hdb : (x == ("__debug__" : Str)) = false := by decide) : PE X (.Call (.Name x p) [] [] pos) (tCall sp [] E tNil) := by
  obtain ⟨f, fd, a, b, c, d⟩ := D
  exact pe_call0 d hr hg a b c .nil hx hdb
theorem pe_mt {pl : Sem Bool} (he : PE X o ta) (M : MtOk X.prog X.w X.K X.mg X.base CX k C m ps sp) (hr : Room k X.A) (hx : Passes CX X E) (ha : PA X (e :: es) t)
    (hst : starEach (e :: es) X.env = (false, eval e X.env) :: starEach es X.env := by rfl) (hpl : (backTo pos (starEach es X.env)).any (·.1) = false := by rfl)
    (ht : eval (.Call (.Attribute o m apos) (e :: es) [] pos) X.env = (do let ov ← eval o X.env; standAt apos.atName; let (f, first) ← holding [ov] (getMethod ov m pl); callWith pos f first (backTo pos (starEach (e :: es) X.env)) (backToKw pos (keywordEach [] X.env))) := by rfl) :
    PE X (.Call (.Attribute o m apos) (e :: es) [] pos) (tMeth C m sp [] E ta t) := by
  obtain ⟨f, fd, a, b, c, d⟩ := M
  exact pe_meth he a b d hr c .nil hx ha hst hpl ht
theorem pe_mt0 {pl : Sem Bool} (he : PE X o ta) (M : MtOk X.prog X.w X.K X.mg X.base CX k C m ps sp) (hr : Room k X.A) (hx : Passes CX X E)
    (ht : eval (.Call (.Attribute o m apos) [] [] pos) X.env = (do let ov ← eval o X.env; standAt apos.atName; let (f, first) ← holding [ov] (getMethod ov m pl); callWith pos f first (backTo pos (starEach [] X.env)) (backToKw pos (keywordEach [] X.env))) := by rfl) :
    PE X (.Call (.Attribute o m apos) [] [] pos) (tMeth C m sp [] E ta tNil) := by
  obtain ⟨f, fd, a, b, c, d⟩ := M
  exact pe_meth0 he a b d hr c .nil hx ht
theorem pe_mk (M : MkOk X.prog X.w X.K X.mg X.base CX k C x ps sp) (hr : Room (k + 1) X.A) (hx : Passes CX X E) (ha : PA X (e :: es) t) (hg : Gl X x := by rfl) (hdb : (x == ("__debug__" : Str)) = false := by decide)
    (he : starEach (e :: es) X.env = (false, eval e X.env) :: starEach es X.env := by rfl) (hpl : (backTo pos (starEach es X.env)).any (·.1) = false := by rfl) : PE X (.Call (.Name x p) (e :: es) [] pos) (tMake C sp [] E t) := by
  obtain ⟨f, fd, a, b, c, d⟩ := M
  exact pe_make a d hr hg b c .nil hx ha hdb he hpl
theorem pe_mk0 (M : MkOk X.prog X.w X.K X.mg X.base CX k C x ps sp) (hr : Room (k + 1) X.A) (hx : Passes CX X E) (hg : Gl X x := by rfl) (hdb : (x == ("__debug__" : Str)) = false := by decide) : PE X (.Call (.Name x p) [] [] pos) (tMake C sp [] E tNil) := by
  obtain ⟨f, fd, a, b, c, d⟩ := M
  exact pe_make0 a d hr hg b c .nil hx hdb
/-- in a try's body: what is raised is wished for at the slots -/
theorem pe_fnS {W : WX} (tk : Takes X W) (D : DefOk X.prog X.w X.K X.mg X.base (L2.CX X.prog X.w) k x ps sp) (hr : Room k X.A) (ha : PA X (e :: es) t) (hg : Gl X x := by rfl) (hdb : (x == ("__debug__" : Str)) = false := by decide)
    (he : starEach (e :: es) X.env = (false, eval e X.env) :: starEach es X.env := by rfl) (hpl : (backTo pos (starEach es X.env)).any (·.1) = false := by rfl) : PE X (.Call (.Name x p) (e :: es) [] pos) (tCallS sp (WE W) t) := by
  obtain ⟨f, fd, a, b, c, d⟩ := D
  exact pe_callS d hr hg a b c (fun σ => passAt tk σ) ha hdb he hpl
theorem w_callS {sp : Sp} {W : St → XK} {σ : L2.St} {H : Hp} {Q : VK} {t : TA} (h : t σ H fun vs H1 => sp vs H1 Q (W σ)) : tCallS sp W t σ H Q := h
/-- the def's own wish -/
theorem passE {P : Program} {w : World} {K : PySem.W.Frag} {mg : Str → Option Value} {base : Heap} {N : List Str} {qual : Str} {sc : Scope} {f : Addr} {cdv : Value} {A : Around} {outer : List Env} {s : Shared} {H : Hp} {E : XK}
    (tk : Takes (cxOf (L2.CX P w) P w K mg base N qual sc f cdv A outer s H E) (fun cls d _ H => E cls d H)) : Passes (L2.CX P w) (cxOf (L2.CX P w) P w K mg base N qual sc f cdv A outer s H E) E := passes_call tk fun _ _ _ _ h => h
end
end G

/-! GC: dicts whose keys are tuples within tuples. -/
namespace G
open PySem L2
abbrev NK := NestedKey

/-! ### keys by the heap's tracked tuples -/
mutual
inductive NKey (H : Hp) : NK → V → Prop
  | none : NKey H .none .non
  | num (i : Int) : NKey H (.num i) (.int i)
  | text (x : Str) : NKey H (.text x) (.str x)
  | tup {a : Addr} {vs : List V} {ks : List NK} (h : H a = some (.tup vs)) (r : NKeys H ks vs) : NKey H (.tup ks) (.ref a)
inductive NKeys (H : Hp) : List NK → List V → Prop
  | nil : NKeys H [] []
  | cons {k : NK} {v : V} {ks : List NK} {vs : List V} (a : NKey H k v) (b : NKeys H ks vs) : NKeys H (k :: ks) (v :: vs)
end
mutual
theorem NKey.is {P : Program} {w : World} {H : Hp} {h : Heap} (ok : HOk P w H h) : ∀ (k : NK) {v : V} {u : Value}, NKey H k v → RelV v u → NestedIs h k u
  | .none, _, _, a, r => by cases a; cases r; exact .none
  | .num i, _, _, a, r => by cases a; obtain ⟨t, rfl⟩ := r; exact .int i t
  | .text x, _, _, a, r => by cases a; obtain ⟨t, rfl⟩ := r; exact .text x t
  | .tup ks, _, _, a, r => by
    cases a with
    | tup e q =>
      cases r
      obtain ⟨_, its, rv, o, h1, h2, n, h3⟩ := ok _ _ e
      exact .tup h1 h2 h3 (NKeys.is ok ks q rv)
theorem NKeys.is {P : Program} {w : World} {H : Hp} {h : Heap} (ok : HOk P w H h) : ∀ (ks : List NK) {vs : List V} {us : List Value}, NKeys H ks vs → Vals vs us → NestedAll h ks us
  | [], _, _, a, r => by cases a; cases r; exact .nil
  | k :: ks, _, _, a, r => by
    cases a with
    | cons a b =>
      cases r with
      | cons r1 r2 => exact .cons (NKey.is ok k a r1) (NKeys.is ok ks b r2)
end
mutual
theorem NKey.mono {H H' : Hp} (f : ∀ a xs, H a = some (.tup xs) → H' a = some (.tup xs)) : ∀ (k : NK) {v : V}, NKey H k v → NKey H' k v
  | .none, _, a => by cases a; exact .none
  | .num i, _, a => by cases a; exact .num i
  | .text x, _, a => by cases a; exact .text x
  | .tup ks, _, a => by
    cases a with
    | tup e q => exact .tup (f _ _ e) (NKeys.mono f ks q)
theorem NKeys.mono {H H' : Hp} (f : ∀ a xs, H a = some (.tup xs) → H' a = some (.tup xs)) : ∀ (ks : List NK) {vs : List V}, NKeys H ks vs → NKeys H' ks vs
  | [], _, a => by cases a; exact .nil
  | k :: ks, _, a => by
    cases a with
    | cons a b => exact .cons (NKey.mono f k a) (NKeys.mono f ks b)
end
/-- a tuple of ints as a key -/
def nkInts (ns : List Int) : NK := .tup (ns.map NestedKey.num)
theorem NKeys.ints {H : Hp} : ∀ ns : List Int, NKeys H (ns.map NestedKey.num) (ns.map V.int)
  | [] => .nil
  | n :: ns => .cons (.num n) (NKeys.ints ns)
theorem NKey.ints {H : Hp} {a : Addr} {ns : List Int} (h : H a = some (.tup (ns.map V.int))) : NKey H (nkInts ns) (.ref a) := .tup h (NKeys.ints ns)
theorem nums_inj : ∀ {a b : List Int}, a.map NestedKey.num = b.map NestedKey.num → a = b
  | [], [], _ => rfl
  | [], _ :: _, h => by simp at h
  | _ :: _, [], h => by simp at h
  | x :: a, y :: b, h => by
    simp only [List.map_cons, List.cons.injEq, NestedKey.num.injEq] at h
    rw [h.1, nums_inj h.2]
theorem nkInts_inj {a b : List Int} (h : nkInts a = nkInts b) : a = b := nums_inj (NestedKey.tup.inj h)
theorem depth_nums : ∀ ns : List Int, NestedKey.depthAll (ns.map NestedKey.num) = 0
  | [] => rfl
  | n :: ns => by
    show max (NestedKey.depth (.num n)) (NestedKey.depthAll (ns.map NestedKey.num)) = 0
    rw [depth_nums ns]; rfl
theorem depth_ints (ns : List Int) : (nkInts ns).depth = 1 := by
  show NestedKey.depthAll (ns.map NestedKey.num) + 1 = 1
  rw [depth_nums]

/-! ### the dict -/
abbrev NEs := List (NK × Addr × V)
def nkRel : NEs → List (NK × Addr × Value) → Prop := Paired fun p q => p.1 = q.1 ∧ p.2.1 = q.2.1 ∧ RelV p.2.2 q.2.2
def NkR (P : Program) (w : World) (d : Addr) (es : NEs) (h : Heap) : Prop := es.length ≤ sizeLine ∧ (d == sysModules) = false ∧ ∃ xs : List (NK × Addr × Value), nkRel es xs ∧
  ∃ o ents ep, h.get? d = some o ∧ o.ExactDict ∧ o.data = .dict ents ep ∧ ents.toList = xs.map (entryOfKey (nestedKind P w)) ∧ (xs.map (·.1)).Nodup
/-- at d stands a dict of such keys, its entries (key, where the key lies, value) in their order -/
structure NkD (P : Program) (w : World) (H : Hp) (d : Addr) (es : NEs) : Prop where
  at' : H d = some (.ext (NkR P w d es))
  ks : ∀ e ∈ es, NKey H e.1 (.ref e.2.1) ∧ e.1.depth ≤ 8
def nkVal (es : NEs) (k : NK) : Option V := (es.find? fun e => decide (e.1 = k)).map (·.2.2)
def nkSet (k : NK) (v : V) (e : NK × Addr × V) : NK × Addr × V := if e.1 = k then (e.1, e.2.1, v) else e
def nkPut (es : NEs) (k : NK) (a : Addr) (v : V) : NEs := if (nkVal es k).isSome then es.map (nkSet k v) else es ++ [(k, a, v)]
theorem nkRel.len {es : NEs} {xs : List (NK × Addr × Value)} (r : nkRel es xs) : es.length = xs.length := Paired.length r
theorem nkRel.val {es : NEs} {xs : List (NK × Addr × Value)} (r : nkRel es xs) (k : NK) : RelO (nkVal es k) ((atKey xs k).map (·.2)) := by
  unfold nkRel at r
  induction r with
  | nil => exact trivial
  | @cons p q ps qs h t ih =>
    obtain ⟨h1, h2, h3⟩ := h
    unfold nkVal atKey
    rw [List.find?_cons, List.find?_cons]
    by_cases e : q.1 = k
    · have e' : p.1 = k := h1.trans e
      simp only [e, e', decide_true, Option.map_some]
      exact h3
    · have e' : ¬ p.1 = k := fun z => e (h1.symm.trans z)
      simp only [e, e', decide_false]
      exact ih
theorem nkRel.isSome {es : NEs} {xs : List (NK × Addr × Value)} (r : nkRel es xs) (k : NK) : (nkVal es k).isSome = (atKey xs k).isSome := by
  have q := r.val k
  cases h1 : nkVal es k with
  | none =>
    rw [h1] at q
    cases h2 : atKey xs k with
    | none => rfl
    | some z => rw [h2] at q; exact q.elim
  | some y =>
    rw [h1] at q
    cases h2 : atKey xs k with
    | none => rw [h2] at q; exact q.elim
    | some z => rfl
theorem nkRel.app {es es' : NEs} {xs xs' : List (NK × Addr × Value)} (r : nkRel es xs) (r' : nkRel es' xs') : nkRel (es ++ es') (xs ++ xs') := by
  unfold nkRel at r
  induction r with
  | nil => exact r'
  | cons h t ih => exact .cons h ih
theorem nkRel.set {es : NEs} {xs : List (NK × Addr × Value)} (r : nkRel es xs) (k : NK) {v : V} {u : Value} (q : RelV v u) : nkRel (es.map (nkSet k v)) (xs.map (putAt k u)) := by
  unfold nkRel at r
  induction r with
  | nil => exact .nil
  | @cons p z ps qs h t ih =>
    obtain ⟨h1, h2, h3⟩ := h
    refine .cons ?_ ih
    unfold putAt nkSet
    by_cases e : z.1 = k
    · rw [if_pos (h1.trans e), if_pos e]
      exact ⟨h1, h2, q⟩
    · rw [if_neg (fun y => e (h1.symm.trans y)), if_neg e]
      exact ⟨h1, h2, h3⟩
theorem nkRel.put {es : NEs} {xs : List (NK × Addr × Value)} (r : nkRel es xs) (k : NK) (a : Addr) {v : V} {u : Value} (q : RelV v u) : nkRel (nkPut es k a v) (storedH xs k a u) := by
  unfold nkPut storedH
  rw [r.isSome k]
  split
  · exact r.set k q
  · exact r.app (.cons ⟨rfl, rfl, q⟩ .nil)
theorem nkPut_new {es : NEs} {k : NK} (h : nkVal es k = none) (a : Addr) (v : V) : nkPut es k a v = es ++ [(k, a, v)] := by
  unfold nkPut
  rw [h, if_neg (by decide)]
theorem nkPut_len (es : NEs) (k : NK) (a : Addr) (v : V) : (nkPut es k a v).length ≤ es.length + 1 := by
  unfold nkPut
  split
  · rw [List.length_map]; omega
  · rw [List.length_append, List.length_singleton]; exact Nat.le_refl _
theorem nkVal_map (es : NEs) (k : NK) (v : V) (j : NK) : nkVal (es.map (nkSet k v)) j = if j = k ∧ (nkVal es k).isSome = true then some v else nkVal es j := by
  induction es with
  | nil => simp [nkVal]
  | cons p ps ih =>
    have c1 : ∀ (q : NK × Addr × V) (qs : NEs) (i : NK), nkVal (q :: qs) i = if q.1 = i then some q.2.2 else nkVal qs i := fun q qs i => by
      unfold nkVal
      rw [List.find?_cons]
      by_cases e : q.1 = i
      · rw [decide_eq_true e, if_pos e]; rfl
      · rw [decide_eq_false e, if_neg e]
    rw [List.map_cons, c1, c1, c1, ih]
    have c2 : (nkSet k v p).1 = p.1 := by
      unfold nkSet
      split <;> rfl
    rw [c2]
    by_cases e1 : p.1 = j
    · rw [if_pos e1, if_pos e1]
      by_cases e2 : j = k
      · have e3 : p.1 = k := e1.trans e2
        have e4 : (nkSet k v p).2.2 = v := by unfold nkSet; rw [if_pos e3]
        rw [e4, if_pos e3, if_pos ⟨e2, rfl⟩]
      · have e3 : ¬ p.1 = k := fun z => e2 (e1.symm.trans z)
        have e4 : nkSet k v p = p := by unfold nkSet; rw [if_neg e3]
        rw [e4, if_neg (fun z => e2 z.1)]
    · rw [if_neg e1, if_neg e1]
      by_cases e2 : j = k
      · have e3 : ¬ p.1 = k := fun z => e1 (z.trans e2.symm)
        rw [if_neg e3]
      · rw [if_neg (fun z => e2 z.1), if_neg (fun z => e2 z.1)]
theorem nkVal_put (es : NEs) (k : NK) (a : Addr) (v : V) (j : NK) : nkVal (nkPut es k a v) j = if j = k then some v else nkVal es j := by
  unfold nkPut
  cases hv : nkVal es k with
  | none =>
    rw [if_neg (by decide)]
    unfold nkVal at hv ⊢
    rw [List.find?_append]
    by_cases e : j = k
    · subst e
      rw [if_pos rfl]
      have z : (es.find? fun e => decide (e.1 = j)) = none := by
        cases q : es.find? fun e => decide (e.1 = j) with
        | none => rfl
        | some y => rw [q] at hv; cases hv
      rw [z]; simp
    · rw [if_neg e]
      have z : ([(k, a, v)] : NEs).find? (fun e => decide (e.1 = j)) = none := by
        simp only [List.find?_cons, decide_eq_false (fun y : k = j => e y.symm), List.find?_nil]
      rw [z, Option.or_none]
  | some y =>
    rw [if_pos (show (some y).isSome = true from rfl), nkVal_map, hv]
    by_cases e : j = k
    · rw [if_pos ⟨e, rfl⟩, if_pos e]
    · rw [if_neg (fun z => e z.1), if_neg e]
theorem NkD.mono {P : Program} {w : World} {H H' : Hp} {d : Addr} {es : NEs} (n : NkD P w H d es) (hd : H' d = some (.ext (NkR P w d es))) (f : ∀ a xs, H a = some (.tup xs) → H' a = some (.tup xs)) : NkD P w H' d es :=
  ⟨hd, fun e he => ⟨(n.ks e he).1.mono f, (n.ks e he).2⟩⟩
theorem NkD.fr {P : Program} {w : World} {S : List Addr} {H H' : Hp} {d : Addr} {es : NEs} (n : NkD P w H d es) (f : Fr S H H') (hd : d ∉ S) : NkD P w H' d es := n.mono (f.kp _ _ n.at' hd) fun _ _ e => f.fx _ _ e rfl
theorem nkO_ok {P : Program} {w : World} {H : Hp} {h : Heap} {d : Addr} {es : NEs} (r : NkR P w d es h) : ObjOk P w H h d (.ext (NkR P w d es)) := by
  refine ⟨r, ?_, fun h1 h2 p k => ?_⟩
  · obtain ⟨_, _, _, _, o, _, _, e, _⟩ := r
    exact ⟨o, e⟩
  · obtain ⟨a, b, xs, c, o, ents, ep, e, q⟩ := p
    exact ⟨a, b, xs, c, o, ents, ep, k o e, q⟩

section
variable {X : Cx} {pins : List (Addr × Obj)} {σ : L2.St} {H : Hp} {s : Shared} {d : Addr} {es : NEs} {k : NK} {b : Addr} {v : V} {A : Around} {E : Value → Shared → Prop}
theorem NkD.dict (I : Inv X pins σ H s) (n : NkD X.prog X.w H d es) : es.length ≤ sizeLine ∧ (d == sysModules) = false ∧ ∃ xs, nkRel es xs ∧ s.heap.DictOfH (nestedKind X.prog X.w) d xs := by
  obtain ⟨⟨a, c, xs, r, o, ents, ep, e1, e2, e3, e4, e5⟩, _, _⟩ := I.hok _ _ n.at'
  refine ⟨a, c, xs, r, o, ents, ep, e1, e2, e3, e4, ?_, e5⟩
  have all : ∀ {l : NEs} {m : List (NK × Addr × Value)}, nkRel l m → (∀ e ∈ l, NKey H e.1 (.ref e.2.1) ∧ e.1.depth ≤ 8) → ∀ x ∈ m, (nestedKind X.prog X.w).is s.heap x.1 x.2.1 := by
    intro l m q
    unfold nkRel at q
    induction q with
    | nil => intro _ x hx; exact nomatch hx
    | @cons p z ps qs hh t ih =>
      intro hl x hx
      rcases List.mem_cons.mp hx with e | hx
      · subst e
        obtain ⟨h1, h2, h3⟩ := hh
        have q := hl p List.mem_cons_self
        rw [h1, h2] at q
        exact ⟨NKey.is I.hok x.1 q.1 rfl, q.2⟩
      · exact ih (fun e he => hl e (List.mem_cons_of_mem _ he)) x hx
  exact all r n.ks
theorem nk_is (I : Inv X pins σ H s) (hk : NKey H k (.ref b)) (hd : k.depth ≤ 8) : (nestedKind X.prog X.w).is s.heap k b := ⟨NKey.is I.hok k hk rfl, hd⟩
theorem nk_room (hu : A.units + 64 < cLine) : (nestedKind X.prog X.w).room A.in1 := by
  show A.units + 1 + 8 < cLine
  omega
theorem n_get {Q : Value → Shared → Prop} (hu : A.units + 64 < cLine) (I : Inv X pins σ H s) (n : NkD X.prog X.w H d es) (hk : NKey H k (.ref b)) (hd : k.depth ≤ 8) (hv : nkVal es k = some v) (h : ∀ u s', Inv X pins σ H s' → RelV v u → Q u s') :
    wpAny (model X.prog X.w) A (getItem (.ref d) (.ref b)) Q E s := by
  obtain ⟨_, _, xs, r, D⟩ := n.dict I
  have q := r.val k
  rw [hv] at q
  obtain ⟨u, e, ru⟩ := RelO.some_of q
  obtain ⟨p, hp, hp2⟩ := Option.map_eq_some_iff.mp e
  refine wpAny_getItem_heap (nk_room hu) (nk_is I hk hd) D hp ?_
  rw [hp2]
  exact h u _ (I.tok _) ru
theorem n_in {Q : Value → Shared → Prop} (hu : A.units + 64 < cLine) (I : Inv X pins σ H s) (n : NkD X.prog X.w H d es) (hk : NKey H k (.ref b)) (hd : k.depth ≤ 8) (h : ∀ s', Inv X pins σ H s' → Q (.bool (nkVal es k).isSome) s') :
    wpAny (model X.prog X.w) A (compareOp .In (.ref b) (.ref d)) Q E s := by
  obtain ⟨_, ns, xs, r, D⟩ := n.dict I
  refine wpAny_in_heap (nk_room hu) (nk_is I hk hd) ns D ?_
  rw [← r.isSome k]
  exact h _ (I.tok _)
theorem n_notIn {Q : Value → Shared → Prop} (hu : A.units + 64 < cLine) (I : Inv X pins σ H s) (n : NkD X.prog X.w H d es) (hk : NKey H k (.ref b)) (hd : k.depth ≤ 8) (h : ∀ s', Inv X pins σ H s' → Q (.bool (!(nkVal es k).isSome)) s') :
    wpAny (model X.prog X.w) A (compareOp .NotIn (.ref b) (.ref d)) Q E s := by
  obtain ⟨_, ns, xs, r, D⟩ := n.dict I
  refine notIn_keyed (nk_room hu) (nk_is I hk hd) ns ⟨xs, D, rfl⟩ ?_
  rw [valueAt_pairsH, Option.isSome_map, ← r.isSome k]
  exact h _ (I.tok _)
theorem n_put {u : Value} {Q : Unit → Shared → Prop} (hu : A.units + 64 < cLine) (I : Inv X pins σ H s) (n : NkD X.prog X.w H d es) (hk : NKey H k (.ref b)) (hd : k.depth ≤ 8) (hz : es.length < sizeLine) (rv : RelV v u)
    (h : ∀ s', Inv X pins σ (upd H d (.ext (NkR X.prog X.w d (nkPut es k b v)))) s' → Q () s') : wpAny (model X.prog X.w) A (setItem (.ref d) (.ref b) u) Q E s := by
  obtain ⟨z, ns, xs, r, D⟩ := n.dict I
  refine wpAny_setItem_heap (hsz := by rw [← r.len]; exact z) (nk_room hu) (nk_is I hk hd) D fun h' D' sb => h _ ?_
  obtain ⟨o, ents, ep, e1, e2, e3, e4, _, e5⟩ := D'
  have len := nkPut_len es k b v
  exact d_write (t' := s.toks + (nestedKind X.prog X.w).draws k) I (by rw [n.at']; exact True.intro) sb ⟨o, e1⟩ (nkO_ok ⟨by omega, ns, _, r.put k b rv, o, ents, ep, e1, e2, e3, e4, e5⟩)
end
theorem NkD.put {P : Program} {w : World} {H : Hp} {d b : Addr} {es : NEs} {k : NK} {v : V} (n : NkD P w H d es) (hk : NKey H k (.ref b)) (hd : k.depth ≤ 8) : NkD P w (upd H d (.ext (NkR P w d (nkPut es k b v)))) d (nkPut es k b v) := by
  have f : ∀ a xs, H a = some (.tup xs) → upd H d (.ext (NkR P w d (nkPut es k b v))) a = some (.tup xs) := fun a xs e => by
    rw [upd_ne (ne_of e n.at' (by intro z; cases z))]; exact e
  refine ⟨upd_same, fun e he => ?_⟩
  unfold nkPut at he
  split at he
  · obtain ⟨e', he', rfl⟩ := List.mem_map.mp he
    obtain ⟨q1, q2⟩ := n.ks e' he'
    have c : (nkSet k v e').1 = e'.1 ∧ (nkSet k v e').2.1 = e'.2.1 := by
      unfold nkSet
      split <;> exact ⟨rfl, rfl⟩
    rw [c.1, c.2]
    exact ⟨q1.mono f, q2⟩
  · rcases List.mem_append.mp he with he | he
    · exact ⟨(n.ks e he).1.mono f, (n.ks e he).2⟩
    · rw [List.mem_singleton.mp he]
      exact ⟨hk.mono f, hd⟩

/-! ### rules -/
section
variable {X : Cx} {o i e value : Expr} {pos pos' : Pos} {td ty tv : TE}
def tNGet (P : Program) (w : World) (td ty : TE) : TE := fun σ H Q => td σ H fun x H1 => ty σ H1 fun y H2 => ∃ d b es k v, x = .ref d ∧ y = .ref b ∧ NkD P w H2 d es ∧ NKey H2 k (.ref b) ∧ k.depth ≤ 8 ∧ nkVal es k = some v ∧ Q v H2
def tNIn (P : Program) (w : World) (ty td : TE) : TE := fun σ H Q => ty σ H fun y H1 => td σ H1 fun x H2 => ∃ d b es k, x = .ref d ∧ y = .ref b ∧ NkD P w H2 d es ∧ NKey H2 k (.ref b) ∧ k.depth ≤ 8 ∧ Q (.bl (nkVal es k).isSome) H2
def tNNotIn (P : Program) (w : World) (ty td : TE) : TE := fun σ H Q => ty σ H fun y H1 => td σ H1 fun x H2 => ∃ d b es k, x = .ref d ∧ y = .ref b ∧ NkD P w H2 d es ∧ NKey H2 k (.ref b) ∧ k.depth ≤ 8 ∧ Q (.bl (!(nkVal es k).isSome)) H2
def sNPut (P : Program) (w : World) (td ty tv : TE) : TS := fun D σ H => tv σ H fun v H1 => td σ H1 fun x H2 => ty σ H2 fun y H3 => ∃ d b es k, x = .ref d ∧ y = .ref b ∧ NkD P w H3 d es ∧ NKey H3 k (.ref b) ∧ k.depth ≤ 8 ∧ es.length < sizeLine ∧
  D.nx σ (upd H3 d (.ext (NkR P w d (nkPut es k b v))))
theorem NkD.isDict {pins : List (Addr × Obj)} {σ : L2.St} {H : Hp} {s : Shared} {d : Addr} {es : NEs} (n : NkD X.prog X.w H d es) (I : Inv X pins σ H s) : s.TypeIs (.ref d) "dict" := by
  obtain ⟨_, _, xs, _, D⟩ := n.dict I
  exact D.typeIs
theorem pe_nget (hu : X.A.units + 64 < cLine) (ho : PE X o td) (hi : PE X i ty) (hs : NoSl i) : PE X (.Subscript o i pos) (tNGet X.prog X.w td ty) := by
  refine ⟨fun pins s σ H Q I h => subD_of PySem.F.slot_dict_getitem.lookup hs (thn (ho.run pins s σ H _ I h) fun u s1 ⟨x, H1, I1, rx, q1⟩ => thn (hi.run pins s1 σ H1 _ I1 q1) fun iv s2 ⟨y, H2, I2, ry, d, b, es, k, v, ex, ey, n, hk, hd, hv, q2⟩ => ?_)⟩
  subst ex; subst ey
  cases rx; cases ry
  exact ⟨n.isDict I2, n_get hu I2 n hk hd hv fun u s3 I3 ru => ⟨v, H2, I3, ru, q2⟩⟩
theorem pc_nin (hu : X.A.units + 64 < cLine) (hi : PE X i ty) (ho : PE X o td) : PC X .In i o (tNIn X.prog X.w ty td) := by
  refine ⟨fun pins s σ H Q I h => thn (hi.run pins s σ H _ I h) fun iv s1 ⟨y, H1, I1, ry, q1⟩ => thn (ho.run pins s1 σ H1 _ I1 q1) fun u s2 ⟨x, H2, I2, rx, d, b, es, k, ex, ey, n, hk, hd, q2⟩ => ?_⟩
  subst ex; subst ey
  cases rx; cases ry
  exact n_in hu I2 n hk hd fun s3 I3 => ⟨.bl _, H2, I3, rfl, q2⟩
theorem pc_nnotin (hu : X.A.units + 64 < cLine) (hi : PE X i ty) (ho : PE X o td) : PC X .NotIn i o (tNNotIn X.prog X.w ty td) := by
  refine ⟨fun pins s σ H Q I h => thn (hi.run pins s σ H _ I h) fun iv s1 ⟨y, H1, I1, ry, q1⟩ => thn (ho.run pins s1 σ H1 _ I1 q1) fun u s2 ⟨x, H2, I2, rx, d, b, es, k, ex, ey, n, hk, hd, q2⟩ => ?_⟩
  subst ex; subst ey
  cases rx; cases ry
  exact n_notIn hu I2 n hk hd fun s3 I3 => ⟨.bl _, H2, I3, rfl, q2⟩
theorem ps_nput (hu : X.A.units + 64 < cLine) (ho : PE X o td) (hi : PE X i ty) (hv : PE X value tv) (hs : swapsWith value (some (.Subscript o i pos')) pos.line X.env = pure false) : PS X (.Assign [.Subscript o i pos'] value pos) (sNPut X.prog X.w td ty tv) := by
  refine ⟨fun pins s σ H D I h => wpAny_Assign_Subscript (thn (hv.run pins s σ H _ I h) fun r s1 ⟨v, H1, I1, rv, q1⟩ => thn (ho.run pins s1 σ H1 _ I1 q1) fun u s2 ⟨x, H2, I2, rx, q2⟩ => thn (hi.run pins s2 σ H2 _ I2 q2) fun iv s3 ⟨y, H3, I3, ry, d, b, es, k, ex, ey, n, hk, hd, hz, q3⟩ => ?_) hs⟩
  subst ex; subst ey
  cases rx; cases ry
  exact n_put hu I3 n hk hd hz rv fun s4 I4 => ⟨σ, _, I4, q3⟩
/-- {k: v}, k a tuple of tuples; {} to be such a dict -/
def tNDisp (P : Program) (w : World) (tk tv : TE) : TE := fun σ H Q => ∀ p, H p = none → tk σ (upd H p (.ext (NkR P w p []))) fun x H1 => tv σ H1 fun y H2 => ∃ b k, x = .ref b ∧ H2 p = some (.ext (NkR P w p [])) ∧ NKey H2 k (.ref b) ∧ k.depth ≤ 8 ∧ Q (.ref p) (upd H2 p (.ext (NkR P w p [(k, b, y)])))
def tNNew (P : Program) (w : World) : TE := fun _ H Q => ∀ p, H p = none → Q (.ref p) (upd H p (.ext (NkR P w p [])))
theorem nk_empty {P : Program} {w : World} {H : Hp} (h : Heap) (hb : sysModules < h.objs.size) : ObjOk P w H (h.push { cls := .type "dict", data := .dict #[] }) h.objs.size (.ext (NkR P w h.objs.size [])) :=
  nkO_ok ⟨Nat.zero_le _, beq_eq_false_iff_ne.mpr (Ne.symm (Nat.ne_of_lt hb)), [], .nil, _, #[], 0, Heap.get?_push_size _ rfl, ⟨rfl, rfl, rfl⟩, rfl, rfl, List.nodup_nil⟩
theorem pe_nnew : PE X (.Dict [] [] pos) (tNNew X.prog X.w) := ⟨fun pins s σ H Q I h =>
  wpAny_Dict_empty ⟨.ref s.heap.objs.size, _, I.laid (a := s.heap.objs.size) (t' := s.toks) (fun _ _ q => Heap.get?_push_of_some _ q) (Nat.le_refl _) (nk_empty s.heap I.big), rfl, h _ (I.hok.fresh (Nat.le_refl _))⟩⟩
theorem pe_ndisp {k v : Expr} {tk tv : TE} (hu : X.A.units + 64 < cLine) (hk : PE X k tk) (hv : PE X v tv) : PE X (.Dict [some k] [v] pos) (tNDisp X.prog X.w tk tv) := by
  refine ⟨fun pins s σ H Q I h => ?_⟩
  have hn := I.hok.fresh (Nat.le_refl s.heap.objs.size)
  have I1 := I.laid (a := s.heap.objs.size) (h' := s.heap.push { cls := .type "dict", data := .dict #[] }) (t' := s.toks) (fun _ _ q => Heap.get?_push_of_some _ q) (Nat.le_refl _) (nk_empty (P := X.prog) (w := X.w) s.heap I.big)
  rw [arm_eval_Dict, show (evalEachOpt [some k] X.env).zip ((evalEach [v] X.env).map fun u => do let x ← u; standAt pos; pure x) = (pairTrees [some k] [v] X.env pos).map (fun p => (some p.1, p.2)) from rfl,
    dictDisplay_pairs (pairTrees [some k] [v] X.env pos) (by intro z; cases z) (by show 1 < 17; decide)]
  refine wpAny_bind (wpAny_standAt (wpAny_bind (wpAny_subDictH (knd := nestedKind X.prog X.w) (Q := fun a s' => wpAny (model X.prog X.w) X.A (pure (Value.ref a)) (EP X pins σ Q) X.xe s') (by show X.A.units + 8 < cLine; omega) (by show 1 ≤ 15; decide) ?_)))
  refine pairTrees_cons_walk (thn (hk.run pins _ σ _ _ I1 (h _ hn)) fun u s2 ⟨x, H2, I2, rx, q2⟩ => thn (hv.run pins s2 σ H2 _ I2 q2) fun u2 s3 ⟨y, H3, I3, ry, b, kk, ex, ep, nk, hd, q3⟩ => pairTrees_nil_walk ?_)
  subst ex
  cases rx
  have n : NkD X.prog X.w H3 s.heap.objs.size [] := ⟨ep, fun e he => nomatch he⟩
  obtain ⟨_, ns, xs, r, D⟩ := n.dict I3
  cases r
  refine ⟨[(kk, b, u2)], ⟨rfl, rfl, nk_is I3 nk hd, trivial⟩, D, fun h' tk' D' sb => wpAny_pure ?_⟩
  obtain ⟨o, ents, ep', e1, e2, e3, e4, _, e5⟩ := D'
  have J := d_write (t' := tk') (ob := .ext (NkR X.prog X.w s.heap.objs.size [(kk, b, y)])) I3 (by rw [ep]; exact True.intro) sb ⟨o, e1⟩ (nkO_ok ⟨by show 1 ≤ sizeLine; decide, ns, [(kk, b, u2)], .cons ⟨rfl, rfl, ry⟩ .nil, o, ents, ep', e1, e2, e3, e4, e5⟩)
  exact ⟨.ref s.heap.objs.size, _, J, rfl, q3⟩
end
end G

/-! GD: set(a list of ints), sorted of it; sorted of a dict with int keys, of any length. -/
namespace G
open PySem L2 PyProof.Rows
theorem ivals : ∀ {ns : List Int} {us : List Value}, Vals (ns.map V.int) us → IntsAre us ns
  | [], _, .nil => .nil
  | n :: ns, _, .cons a b => by
    obtain ⟨t, rfl⟩ := a
    exact .cons n t (ivals b)
section
variable {X : Cx}
/-- set(xs), xs a list of ints -/
def rSetI (K : PySem.W.Frag) (w : World) : List V → Hp → VK → Prop := fun vs H Q => ∃ (l : Addr) (ns : List Int), vs = [V.ref l] ∧ SqL K H l (ns.map V.int) ∧ ns.length ≤ 4000 ∧ ∀ p c, H p = none → c ≤ ns.length → Q (.ref p) (upd H p (SetO w p (fun j => decide (j ∈ ns)) c))
theorem cr_setI (hc : X.calm = true) : CallR X (.type "set") (rSetI X.K X.w) := by
  intro pins s σ H vs us Q I r h
  obtain ⟨l, ns, rfl, hl, hz, q⟩ := h
  rw [Vals.ref1 r]
  obtain ⟨its, rv, pl, _⟩ := I.list hl
  refine set_of_list ns (I.ok.hd hc) pl.isList (by simpa using ivals rv) (by unfold scanBound; omega) fun h' tk c R lc kept => ?_
  have J : Inv X pins σ (upd H s.heap.objs.size (SetO X.w s.heap.objs.size (fun j => decide (j ∈ ns)) c)) { s with heap := h', toks := tk } := I.laid kept (Nat.le_refl _) (setO_new R)
  exact ⟨.ref s.heap.objs.size, _, J, rfl, q _ c (I.hok.fresh (Nat.le_refl _)) lc⟩
/-- the rising list of the isI of another one, each once -/
def IsSet (ns ms : List Int) : Prop := ms.Pairwise (· < ·) ∧ (∀ k, k ∈ ms ↔ k ∈ ns)
theorem w_setI {K : PySem.W.Frag} {w : World} {l : Addr} {ns : List Int} {H : Hp} {Q : VK} (hl : SqL K H l (ns.map V.int)) (hz : ns.length ≤ 60)
    (q : ∀ p c, H p = none → c < 64 → Q (.ref p) (upd H p (SetO w p (fun j => decide (j ∈ ns)) c))) : rSetI K w [.ref l] H Q := ⟨l, ns, rfl, hl, by omega, fun p c hp hc => q p c hp (by omega)⟩
theorem w_sortedSet {w : World} {H : Hp} {Q : VK} {a : Addr} {ns : List Int} {c : Nat} (h : H a = some (SetO w a (fun j => decide (j ∈ ns)) c)) (hc : c < 64) (q : ∀ ms p, IsSet ns ms → H p = none → Q (.ref p) (upd H p (.lst (ms.map V.int)))) : rSortedSet w [.ref a] H Q :=
  ⟨a, _, c, rfl, h, hc, fun ms p h1 h2 _ hp => q ms p ⟨h1, fun k => by rw [h2 k]; simp⟩ hp⟩
end
end G

/-! GE: the rules with the written part K named (so that a comprehension's parts don't hang on its block). -/
namespace G
open PySem L2
section
variable {X : Cx} (K : PySem.W.Frag) (w : World)
theorem ixL (hK : X.K = K := by rfl) : IxR X (rIxL K) := by rw [← hK]; exact ix_list
theorem ixT (hK : X.K = K := by rfl) : IxR X (rIxT K) := by rw [← hK]; exact ix_tup
theorem oIn (hK : X.K = K := by rfl) : OpR X (compareOp .In) (rIn K false) := by rw [← hK]; exact op_in_seq
theorem oNotIn (hK : X.K = K := by rfl) : OpR X (compareOp .NotIn) (rIn K true) := by rw [← hK]; exact op_notIn_seq
theorem oCatA (hK : X.K = K := by rfl) : OpR X (binaryOp .Add) (rCatA K) := by rw [← hK]; exact op_catA
theorem oEqD (hu : X.A.units + 64 < cLine) (hK : X.K = K := by rfl) : OpR X (compareOp .Eq) (rEqD K) := by rw [← hK]; exact op_eqD hu
theorem oNeD (hu : X.A.units + 64 < cLine) (hK : X.K = K := by rfl) : OpR X (compareOp .NotEq) (rNeD K) := by rw [← hK]; exact op_neD hu
def rLenQ (K : PySem.W.Frag) : List V → Hp → VK → Prop := fun xs H Q => ∃ p ys, xs = [.ref p] ∧ (SqL K H p ys ∨ SqT K H p ys) ∧ Q (.int (List.length ys)) H
theorem cLen (hK : X.K = K := by rfl) : CallR X (.builtin "len") (rLenQ K) := by rw [← hK]; exact call_len_seq
def rListQ (K : PySem.W.Frag) : List V → Hp → VK → Prop := fun xs H Q => ∃ p ys, xs = [.ref p] ∧ (SqL K H p ys ∨ SqT K H p ys) ∧ ∀ l, H l = none → Q (.ref l) (upd H l (.lst ys))
theorem cListOf (hK : X.K = K := by rfl) : CallR X (.type "list") (rListQ K) := by rw [← hK]; exact call_list_of
def rTupQ (K : PySem.W.Frag) : List V → Hp → VK → Prop := fun xs H Q => ∃ p ys, xs = [.ref p] ∧ SqL K H p ys ∧ ∀ l, H l = none → Q (.ref l) (upd H l (.tup ys))
theorem cTupOf (hK : X.K = K := by rfl) : CallR X (.type "tuple") (rTupQ K) := by
  subst hK
  intro pins s σ H xs us Q I r h
  obtain ⟨p, ys, e, hq, q⟩ := h
  exact call_tuple_of pins s σ H xs us Q I r ⟨p, ys, e, .inl ⟨hq, q⟩⟩
theorem cMax (hc : X.calm = true := by rfl) (hK : X.K = K := by rfl) : CallR X (.builtin "max") (rMax K) := by rw [← hK]; exact cr_max hc
theorem cMin (hc : X.calm = true := by rfl) (hK : X.K = K := by rfl) : CallR X (.builtin "min") (rMin K) := by rw [← hK]; exact cr_min hc
theorem cSum (hc : X.calm = true := by rfl) (hK : X.K = K := by rfl) : CallR X (.builtin "sum") (rSum K) := by rw [← hK]; exact cr_sum hc
theorem cSortS (hK : X.K = K := by rfl) : CallR X (.builtin "sorted") (rSortedS K) := by rw [← hK]; exact cr_sortedS
theorem cSortI (hK : X.K = K := by rfl) : CallR X (.builtin "sorted") (rSortedI K) := by rw [← hK]; exact cr_sortedI
theorem cIsi (hK : X.K = K := by rfl) : CallR X (.builtin "isinstance") (rIsi K) := by rw [← hK]; exact call_isi
theorem cSetI (hc : X.calm = true := by rfl) (hK : X.K = K := by rfl) (hw : X.w = w := by rfl) : CallR X (.type "set") (rSetI K w) := by rw [← hK, ← hw]; exact cr_setI hc
theorem cSortSet (hc : X.calm = true := by rfl) (hw : X.w = w := by rfl) : CallR X (.builtin "sorted") (rSortedSet w) := by rw [← hw]; exact cr_sortedSet hc
def rMax2Q : List V → Hp → VK → Prop := fun xs H Q => ∃ i j, xs = [.int i, .int j] ∧ Q (.int (max i j)) H
theorem cMax2 (hc : X.calm = true := by rfl) : CallR X (.builtin "max") rMax2Q := by
  intro pins s σ H xs us Q I r h
  obtain ⟨i, j, e, q⟩ := h
  refine call_max2 hc pins s σ H xs us Q I r ⟨i, j, e, ?_⟩
  have z : (if j > i then j else i) = max i j := by split <;> omega
  rw [z]; exact q
def rMin2Q : List V → Hp → VK → Prop := fun xs H Q => ∃ i j, xs = [.int i, .int j] ∧ Q (.int (min i j)) H
theorem cMin2 (hc : X.calm = true := by rfl) : CallR X (.builtin "min") rMin2Q := by
  intro pins s σ H xs us Q I r h
  obtain ⟨i, j, e, q⟩ := h
  refine call_min2 hc pins s σ H xs us Q I r ⟨i, j, e, ?_⟩
  have z : (if j < i then j else i) = min i j := by split <;> omega
  rw [z]; exact q
theorem slL (hK : X.K = K := by rfl) : SlR X (rSlL K) := by rw [← hK]; exact sl_list
theorem slA (hK : X.K = K := by rfl) : SlR X (rSlA K) := by rw [← hK]; exact sl_tupA
theorem iL {tg l : Expr} {tl : TE} (hl : PE X l tl) (hK : X.K = K := by rfl) : PI X tg l (iList K tl) := by rw [← hK]; exact pi_list hl
theorem iT {tg l : Expr} {tl : TE} (hl : PE X l tl) (hK : X.K = K := by rfl) : PI X tg l (iTup K tl) := by rw [← hK]; exact pi_tup hl
theorem gT {es : List Expr} {k : Nat} {pos : Pos} {t : List V → L2.St → Hp → (L2.St → Hp → Prop) → Prop} (h : PGs X es t) (hn : (assignEach es X.env).length = es.length := by rfl) (hst : (assignEach es X.env).findIdx? (·.1) = none := by rfl) (hc : X.calm = true := by rfl) (hK : X.K = K := by rfl) :
    PG X (.Tuple es k pos) (gTup K es.length t) := by
  rw [← hK]; exact pg_tup hc h hn hst
theorem kFld {e : Expr} {f : Str} {pos : Pos} {ta : TE} (he : PE X e ta) (hb : attributeBase e f X.env (eval e X.env) = eval e X.env := by rfl) (hK : X.K = K := by rfl) : PE X (.Attribute e f pos) (tFld K ta f) := by rw [← hK]; exact pe_fld he hb
theorem kSFld {o value : Expr} {f : Str} {pos pos' : Pos} {ta tv : TE} (ha : PE X o ta) (hv : PE X value tv) (hs : swapsWith value (some (.Attribute o f pos')) pos.line X.env = pure false := by rfl) (hK : X.K = K := by rfl) : PS X (.Assign [.Attribute o f pos'] value pos) (sFld K ta tv f) := by
  rw [← hK]; exact ps_fld ha hv hs
theorem kBM0 {T id : String} {r : V → List V → Hp → VK → Prop} {o : Expr} {to : TE} {name : Str} {apos cpos : Pos} (pa : PlainAttrs T) (slot : Slot T name id) (hty : typeOf (.builtin id) = pure (.type "method_descriptor")) (hm : MtR X id r) (ho : PE X o to)
    (hbase : attributeBase o name X.env (eval o X.env) = eval o X.env := by rfl) (hline : (apos.endLine == cpos.line) = true := by rfl) (hK : X.K = K := by rfl) : PE X (.Call (.Attribute o name apos) [] [] cpos) (tBM0 K T r to) := by rw [← hK]; exact pe_bm0 pa slot hty hm ho hbase hline
theorem kBM {T id : String} {r : V → List V → Hp → VK → Prop} {o e : Expr} {es : List Expr} {to : TE} {t : TA} {name : Str} {apos cpos : Pos} (pa : PlainAttrs T) (slot : Slot T name id) (hty : typeOf (.builtin id) = pure (.type "method_descriptor")) (hm : MtR X id r) (ho : PE X o to) (ha : PA X (e :: es) t)
    (hbase : attributeBase o name X.env (eval o X.env) = eval o X.env := by rfl)
    (hfew : ((backTo cpos (starEach (e :: es) X.env)).all (fun x => !x.1) && (backToKw cpos (keywordEach [] X.env)).all (fun x => x.1.isSome) && decide ((e :: es).length + ([] : List Keyword).length + (if ([] : List Keyword).isEmpty then 0 else 1) < 30)) = true := by rfl)
    (hline : (apos.endLine == cpos.line) = true := by rfl) (hs : starEach (e :: es) X.env = (false, eval e X.env) :: starEach es X.env := by rfl) (hplain : (backTo cpos (starEach es X.env)).any (·.1) = false := by rfl) (hK : X.K = K := by rfl) :
    PE X (.Call (.Attribute o name apos) (e :: es) [] cpos) (tBM K T r to t) := by rw [← hK]; exact pe_bm pa slot hty hm ho ha hbase hfew hline hs hplain
def rJoinQ (K : PySem.W.Frag) : V → List V → Hp → VK → Prop := fun x xs H Q => ∃ a p, ∃ ys : List Str, x = .str a ∧ xs = [.ref p] ∧ (SqL K H p (ys.map V.str) ∨ SqT K H p (ys.map V.str)) ∧ (ys.map (·.length)).sum + ys.length * a.length ≤ 16777216 ∧ Q (.str (Txt.join a ys)) H
theorem kJoin {o e : Expr} {to te : TE} {apos pos : Pos} (ho : PE X o to) (he : PE X e te) (hs : starEach [e] X.env = [(false, eval e X.env)] := by rfl) (hbase : attributeBase o "join" X.env (eval o X.env) = eval o X.env := by rfl) (hline : (apos.endLine == pos.line) = true := by rfl) (hK : X.K = K := by rfl) :
    PE X (.Call (.Attribute o "join" apos) [e] [] pos) (tM1 (rJoinQ K) to te) := by rw [← hK]; exact pe_join ho he hs hbase hline
end
section
variable {X : Cx} (P : Program) (w : World) {o i value : Expr} {pos pos' : Pos} {td ty tv : TE}
theorem kNGet (hu : X.A.units + 64 < cLine) (ho : PE X o td) (hi : PE X i ty) (hs : NoSl i) (hP : X.prog = P := by rfl) (hw : X.w = w := by rfl) : PE X (.Subscript o i pos) (tNGet P w td ty) := by rw [← hP, ← hw]; exact pe_nget hu ho hi hs
theorem kNIn (hu : X.A.units + 64 < cLine) (hi : PE X i ty) (ho : PE X o td) (hP : X.prog = P := by rfl) (hw : X.w = w := by rfl) : PC X .In i o (tNIn P w ty td) := by rw [← hP, ← hw]; exact pc_nin hu hi ho
theorem kNNotIn (hu : X.A.units + 64 < cLine) (hi : PE X i ty) (ho : PE X o td) (hP : X.prog = P := by rfl) (hw : X.w = w := by rfl) : PC X .NotIn i o (tNNotIn P w ty td) := by rw [← hP, ← hw]; exact pc_nnotin hu hi ho
theorem kNPut (hu : X.A.units + 64 < cLine) (ho : PE X o td) (hi : PE X i ty) (hv : PE X value tv) (hs : swapsWith value (some (.Subscript o i pos')) pos.line X.env = pure false := by rfl) (hP : X.prog = P := by rfl) (hw : X.w = w := by rfl) :
    PS X (.Assign [.Subscript o i pos'] value pos) (sNPut P w td ty tv) := by rw [← hP, ← hw]; exact ps_nput hu ho hi hv hs
theorem kNDisp {k v : Expr} {tk tv : TE} (hu : X.A.units + 64 < cLine) (hk : PE X k tk) (hv : PE X v tv) (hP : X.prog = P := by rfl) (hw : X.w = w := by rfl) : PE X (.Dict [some k] [v] pos) (tNDisp P w tk tv) := by rw [← hP, ← hw]; exact pe_ndisp hu hk hv
theorem kNNew (hP : X.prog = P := by rfl) (hw : X.w = w := by rfl) : PE X (.Dict [] [] pos) (tNNew P w) := by rw [← hP, ← hw]; exact pe_nnew
end
/-! steps -/
section
variable {σ : L2.St} {H : Hp} {Q : VK} {K : PySem.W.Frag} {w : World} {P : Program} {ta tb tc : TE} {nx bk ct : L2.St → Hp → Prop} {rt : VK} {v : V}
theorem w_lenL {p : Addr} {xs : List V} (h : SqL K H p xs) (q : Q (.int (List.length xs)) H) : rLenQ K [.ref p] H Q := ⟨p, xs, rfl, .inl h, q⟩
theorem w_lenTq {p : Addr} {xs : List V} (h : SqT K H p xs) (q : Q (.int (List.length xs)) H) : rLenQ K [.ref p] H Q := ⟨p, xs, rfl, .inr h, q⟩
theorem w_listL {p : Addr} {xs : List V} (h : SqL K H p xs) (q : ∀ l, H l = none → Q (.ref l) (upd H l (.lst xs))) : rListQ K [.ref p] H Q := ⟨p, xs, rfl, .inl h, q⟩
theorem w_listT {p : Addr} {xs : List V} (h : SqT K H p xs) (q : ∀ l, H l = none → Q (.ref l) (upd H l (.lst xs))) : rListQ K [.ref p] H Q := ⟨p, xs, rfl, .inr h, q⟩
theorem w_catA {a b : Addr} {xs ys : List V} (h : SqT K H a xs) (h' : SqT K H b ys) (hz : xs.length + ys.length ≤ sizeLine) (q : ∀ p H', Fr [] H H' → SqT K H' p (xs ++ ys) → Q (.ref p) H') : rCatA K (.ref a) (.ref b) H Q := by
  refine ⟨a, b, xs, ys, rfl, rfl, h, h', hz, fun e => ?_, fun e1 e => ?_, fun e1 e2 p hp => ?_⟩
  · subst e; exact q b H (Fr.refl [] H) h'
  · subst e; exact q a H (Fr.refl [] H) (by rw [List.append_nil]; exact h)
  · exact q p _ (Fr.new hp) (SqT.of upd_same)
theorem w_tupL {p : Addr} {xs : List V} (h : SqL K H p xs) (q : ∀ l, H l = none → Q (.ref l) (upd H l (.tup xs))) : rTupQ K [.ref p] H Q := ⟨p, xs, rfl, h, q⟩
theorem w_max2q {i j : Int} (q : Q (.int (max i j)) H) : rMax2Q [.int i, .int j] H Q := ⟨i, j, rfl, q⟩
theorem w_min2q {i j : Int} (q : Q (.int (min i j)) H) : rMin2Q [.int i, .int j] H Q := ⟨i, j, rfl, q⟩
theorem w_max {p : Addr} {ns : List Int} (h : SqL K H p (ns.map V.int)) (h0 : 0 < ns.length) (q : ∀ m, m ∈ ns → (∀ y, y ∈ ns → y ≤ m) → Q (.int m) H) : rMax K [.ref p] H Q := ⟨p, ns, rfl, h, h0, q⟩
theorem w_M1 {r : V → List V → Hp → VK → Prop} (h : ta σ H fun x H1 => (∃ a, x = .str a) ∧ tb σ H1 fun y H2 => r x [y] H2 Q) : tM1 r ta tb σ H Q := h
theorem w_M1s {x : Str} {A : Prop} (h : A) : (∃ a, V.str x = .str a) ∧ A := ⟨⟨x, rfl⟩, h⟩
theorem w_join {a : Str} {p : Addr} {ys : List Str} (h : SqL K H p (ys.map V.str)) (hz : (ys.map (·.length)).sum + ys.length * a.length ≤ 16777216) (q : Q (.str (Txt.join a ys)) H) : rJoinQ K (.str a) [.ref p] H Q := ⟨a, p, ys, rfl, rfl, .inl h, hz, q⟩
theorem w_ngetT (h : ta σ H fun x H1 => tb σ H1 fun y H2 => ∃ d b es k v, x = .ref d ∧ y = .ref b ∧ NkD P w H2 d es ∧ NKey H2 k (.ref b) ∧ k.depth ≤ 8 ∧ nkVal es k = some v ∧ Q v H2) : tNGet P w ta tb σ H Q := h
theorem w_nget {d b : Addr} {es : NEs} {k : NK} (n : NkD P w H d es) (hk : NKey H k (.ref b)) (hd : k.depth ≤ 8) (hv : nkVal es k = some v) (q : Q v H) : ∃ d' b' es k v, V.ref d = .ref d' ∧ V.ref b = .ref b' ∧ NkD P w H d' es ∧ NKey H k (.ref b') ∧ k.depth ≤ 8 ∧ nkVal es k = some v ∧ Q v H := ⟨d, b, es, k, v, rfl, rfl, n, hk, hd, hv, q⟩
theorem w_nnotinT (h : ta σ H fun y H1 => tb σ H1 fun x H2 => ∃ d b es k, x = .ref d ∧ y = .ref b ∧ NkD P w H2 d es ∧ NKey H2 k (.ref b) ∧ k.depth ≤ 8 ∧ Q (.bl (!(nkVal es k).isSome)) H2) : tNNotIn P w ta tb σ H Q := h
theorem w_nin {Q : NEs → NK → Prop} {d b : Addr} {es : NEs} {k : NK} (n : NkD P w H d es) (hk : NKey H k (.ref b)) (hd : k.depth ≤ 8) (q : Q es k) : ∃ d' b' es k, V.ref d = .ref d' ∧ V.ref b = .ref b' ∧ NkD P w H d' es ∧ NKey H k (.ref b') ∧ k.depth ≤ 8 ∧ Q es k := ⟨d, b, es, k, rfl, rfl, n, hk, hd, q⟩
theorem w_nputT (h : tc σ H fun v H1 => ta σ H1 fun x H2 => tb σ H2 fun y H3 => ∃ d b es k, x = .ref d ∧ y = .ref b ∧ NkD P w H3 d es ∧ NKey H3 k (.ref b) ∧ k.depth ≤ 8 ∧ es.length < sizeLine ∧ nx σ (upd H3 d (.ext (NkR P w d (nkPut es k b v))))) : sNPut P w ta tb tc ⟨nx, rt, bk, ct⟩ σ H := h
theorem w_nput {d b : Addr} {es : NEs} {k : NK} (n : NkD P w H d es) (hk : NKey H k (.ref b)) (hd : k.depth ≤ 8) (hz : es.length < sizeLine) (q : nx σ (upd H d (.ext (NkR P w d (nkPut es k b v))))) :
    ∃ d' b' es k, V.ref d = .ref d' ∧ V.ref b = .ref b' ∧ NkD P w H d' es ∧ NKey H k (.ref b') ∧ k.depth ≤ 8 ∧ es.length < sizeLine ∧ nx σ (upd H d' (.ext (NkR P w d' (nkPut es k b' v)))) := ⟨d, b, es, k, rfl, rfl, n, hk, hd, hz, q⟩
theorem w_ndisp (h : ∀ p, H p = none → ta σ (upd H p (.ext (NkR P w p []))) fun x H1 => tb σ H1 fun y H2 => ∃ b k, x = .ref b ∧ H2 p = some (.ext (NkR P w p [])) ∧ NKey H2 k (.ref b) ∧ k.depth ≤ 8 ∧ Q (.ref p) (upd H2 p (.ext (NkR P w p [(k, b, y)])))) : tNDisp P w ta tb σ H Q := h
theorem w_dgetT (h : ta σ H fun x H1 => tb σ H1 fun y H2 => ∃ a v, x = .ref a ∧ DGet H2 a y (some v) ∧ Q v H2) : tDGet ta tb σ H Q := h
theorem w_dinT (h : ta σ H fun y H1 => tb σ H1 fun x H2 => ∃ a o, x = .ref a ∧ DGet H2 a y o ∧ Q (.bl o.isSome) H2) : tDIn ta tb σ H Q := h
theorem w_dnotinT (h : ta σ H fun y H1 => tb σ H1 fun x H2 => ∃ a o, x = .ref a ∧ DGet H2 a y o ∧ Q (.bl (!o.isSome)) H2) : tDNotIn ta tb σ H Q := h
theorem w_dputT (h : tc σ H fun v H1 => ta σ H1 fun x H2 => tb σ H2 fun y H3 => ∃ a H4, x = .ref a ∧ DPut H3 a y v H4 ∧ nx σ H4) : sDPut ta tb tc ⟨nx, rt, bk, ct⟩ σ H := h
theorem w_dput {a : Addr} {kvs : List (Key × V)} {k : Key} (e : H a = some (.dK kvs)) (hl : kvs.length < sizeLine) (q : nx σ (upd H a (.dK (putK kvs k v)))) : ∃ a' H4, V.ref a = .ref a' ∧ DPut H a' (kV k) v H4 ∧ nx σ H4 := ⟨a, _, rfl, DPut.k e hl, q⟩
theorem w_din {Q : Option V → Prop} {a : Addr} {kvs : List (Key × V)} {k : Key} (e : H a = some (.dK kvs)) (q : Q (valV kvs k)) : ∃ a' o, V.ref a = .ref a' ∧ DGet H a' (kV k) o ∧ Q o := ⟨a, _, rfl, DGet.k e, q⟩
theorem w_dget {a : Addr} {kvs : List (Key × V)} {k : Key} (e : H a = some (.dK kvs)) (hv : valV kvs k = some v) (q : Q v H) : ∃ a' v, V.ref a = .ref a' ∧ DGet H a' (kV k) (some v) ∧ Q v H := ⟨a, v, rfl, by have g := DGet.k (k := k) e; rw [hv] at g; exact g, q⟩
theorem w_sl {r : V → Option Int → Option Int → Hp → VK → Prop} {te : TE} {tl th : TO} (h : te σ H fun x H1 => tl σ H1 fun l H2 => th σ H2 fun u H3 => r x l u H3 Q) : L2.tSl r te tl th σ H Q := h
theorem w_part {t : TE} {R : Option Int → Hp → Prop} (h : t σ H fun x H1 => ∃ i, x = .int i ∧ R (some i) H1) : tPart t σ H R := h
theorem w_npart {R : Option Int → Hp → Prop} (h : R none H) : tNoPart σ H R := h
theorem w_parti {i : Int} {R : Int → Prop} (h : R i) : ∃ j, V.int i = .int j ∧ R j := ⟨i, rfl, h⟩
theorem w_slS {z : Str} {lo hi : Option Int} (hz : z.length ≤ sizeLine) (q : Q (.str (cutS z lo hi)) H) : rSlS (.str z) lo hi H Q := ⟨z, rfl, hz, q⟩
end
end G

/-! GM: books of games, without a heap. -/
namespace G
open PySem L2
abbrev Row := List Nat × List Nat
abbrev Bk := List Row
def nI (l : List Nat) : List Int := l.map fun (n : Nat) => (n : Int)
def nV (l : List Nat) : List V := l.map fun (n : Nat) => V.int (n : Int)
theorem nV_eq (l : List Nat) : nV l = (nI l).map V.int := by unfold nV nI; rw [List.map_map]; rfl
theorem nI_inj {a b : List Nat} (h : nI a = nI b) : a = b := by
  unfold nI at h
  induction a generalizing b with
  | nil => cases b with
    | nil => rfl
    | cons _ _ => simp at h
  | cons x a ih => cases b with
    | nil => simp at h
    | cons y b =>
      simp only [List.map_cons, List.cons.injEq] at h
      rw [ih h.2, show x = y by omega]
theorem nV_get {l : List Nat} {i : Nat} {x : V} (h : (nV l)[i]? = some x) : ∃ n, l[i]? = some n ∧ x = V.int n := by
  unfold nV at h
  rw [List.getElem?_map] at h
  cases e : l[i]? with
  | none => rw [e] at h; cases h
  | some n => rw [e] at h; exact ⟨n, rfl, (Option.some.inj h).symm⟩
theorem nV_len (l : List Nat) : (nV l).length = l.length := by unfold nV; rw [List.length_map]
/-- sorted, each once -/
def ins (x : Nat) : List Nat → List Nat
  | [] => [x]
  | y :: l => if x < y then x :: y :: l else if x = y then y :: l else y :: ins x l
def nrm (l : List Nat) : List Nat := l.foldr ins []
theorem mem_ins {x k : Nat} : ∀ {l : List Nat}, k ∈ ins x l ↔ k = x ∨ k ∈ l
  | [] => by simp [ins]
  | y :: l => by
    unfold ins
    split
    · simp
    · split
      · rename_i e; subst e; simp
      · rw [List.mem_cons, mem_ins (l := l), List.mem_cons]
        constructor
        · rintro (h | h | h)
          · exact .inr (.inl h)
          · exact .inl h
          · exact .inr (.inr h)
        · rintro (h | h | h)
          · exact .inr (.inl h)
          · exact .inl h
          · exact .inr (.inr h)
theorem ins_srt {x : Nat} : ∀ {l : List Nat}, l.Pairwise (· < ·) → (ins x l).Pairwise (· < ·)
  | [], _ => by simp [ins]
  | y :: l, h => by
    rw [List.pairwise_cons] at h
    unfold ins
    split
    · rename_i c
      rw [List.pairwise_cons]
      refine ⟨fun z hz => ?_, List.pairwise_cons.mpr h⟩
      rcases List.mem_cons.mp hz with e | e
      · rw [e]; exact c
      · exact Nat.lt_trans c (h.1 z e)
    · split
      · exact List.pairwise_cons.mpr h
      · rw [List.pairwise_cons]
        refine ⟨fun z hz => ?_, ins_srt h.2⟩
        rcases mem_ins.mp hz with e | e
        · omega
        · exact h.1 z e
theorem nrm_srt : ∀ l : List Nat, (nrm l).Pairwise (· < ·)
  | [] => List.Pairwise.nil
  | x :: l => ins_srt (nrm_srt l)
theorem mem_nrm {k : Nat} : ∀ {l : List Nat}, k ∈ nrm l ↔ k ∈ l
  | [] => Iff.rfl
  | x :: l => by
    show k ∈ ins x (nrm l) ↔ k ∈ x :: l
    rw [mem_ins, mem_nrm (l := l), List.mem_cons]
theorem srt_ext : ∀ {a b : List Nat}, a.Pairwise (· < ·) → b.Pairwise (· < ·) → (∀ k, k ∈ a ↔ k ∈ b) → a = b
  | [], [], _, _, _ => rfl
  | [], y :: b, _, _, h => by have := (h y).mpr (by simp); simp at this
  | x :: a, [], _, _, h => by have := (h x).mp (by simp); simp at this
  | x :: a, y :: b, ha, hb, h => by
    rw [List.pairwise_cons] at ha hb
    have e : x = y := by
      rcases List.mem_cons.mp ((h x).mp (by simp)) with e | e
      · exact e
      · rcases List.mem_cons.mp ((h y).mpr (by simp)) with e2 | e2
        · exact e2.symm
        · have h1 := hb.1 x e
          have h2 := ha.1 y e2
          omega
    subst e
    rw [srt_ext ha.2 hb.2 fun k => ?_]
    constructor
    · intro hk
      rcases List.mem_cons.mp ((h k).mp (List.mem_cons_of_mem _ hk)) with e | e
      · have := ha.1 k hk; omega
      · exact e
    · intro hk
      rcases List.mem_cons.mp ((h k).mpr (List.mem_cons_of_mem _ hk)) with e | e
      · have := hb.1 k hk; omega
      · exact e
theorem nrm_of_srt {l : List Nat} (h : l.Pairwise (· < ·)) : nrm l = l := srt_ext (nrm_srt l) h fun _ => mem_nrm
theorem nrm_len (l : List Nat) : (nrm l).length ≤ l.length := by
  induction l with
  | nil => exact Nat.le_refl _
  | cons x l ih =>
    have h : ∀ (x : Nat) (l : List Nat), (ins x l).length ≤ l.length + 1 := by
      intro x l
      induction l with
      | nil => exact Nat.le_refl _
      | cons y l ih =>
        unfold ins
        split
        · exact Nat.le_refl _
        · split
          · exact Nat.le_succ _
          · rw [List.length_cons, List.length_cons]; omega
    show (ins x (nrm l)).length ≤ l.length + 1
    have := h x (nrm l)
    omega
theorem isSet_nrm {L : List Nat} {ms : List Int} (h : IsSet (nI L) ms) : ms = nI (nrm L) := by
  obtain ⟨h1, h2⟩ := h
  have nat : ∀ k ∈ ms, ∃ n : Nat, k = (n : Int) := fun k hk => by
    obtain ⟨n, _, e⟩ := List.mem_map.mp ((h2 k).mp hk)
    exact ⟨n, e.symm⟩
  obtain ⟨ns, rfl⟩ : ∃ ns : List Nat, ms = nI ns := by
    clear h1 h2
    induction ms with
    | nil => exact ⟨[], rfl⟩
    | cons k ms ih =>
      obtain ⟨n, e⟩ := nat k (by simp)
      obtain ⟨ns, e2⟩ := ih fun j hj => nat j (List.mem_cons_of_mem _ hj)
      exact ⟨n :: ns, by rw [e, e2]; rfl⟩
  have s : ns.Pairwise (· < ·) := by
    unfold nI at h1
    rw [List.pairwise_map] at h1
    exact h1.imp fun h => by omega
  rw [srt_ext s (nrm_srt L) fun k => ?_]
  rw [mem_nrm]
  have q := h2 (k : Int)
  unfold nI at q
  simp only [List.mem_map] at q
  constructor
  · intro hk
    obtain ⟨n, hn, e⟩ := q.mp ⟨k, hk, rfl⟩
    rw [show k = n by omega]; exact hn
  · intro hk
    obtain ⟨n, hn, e⟩ := q.mpr ⟨k, hk, rfl⟩
    rw [show k = n by omega]; exact hn

/-! ### books -/
structure OkB (B : Bk) : Prop where
  zero : B[0]? = some ([], [])
  srt : ∀ r ∈ B, r.1.Pairwise (· < ·) ∧ r.2.Pairwise (· < ·)
  low : ∀ (i : Nat) (r : Row), B[i]? = some r → ∀ m ∈ r.1 ++ r.2, m < i
  nd : B.Nodup
theorem OkB.pos {B : Bk} (h : OkB B) : 0 < B.length := (List.getElem?_eq_some_iff.mp h.zero).1
def B0 : Bk := [([], [])]
theorem okB0 : OkB B0 := by
  refine ⟨rfl, fun r hr => ?_, fun i r hr m hm => ?_, by simp [B0]⟩
  · rw [List.mem_singleton.mp hr]; exact ⟨List.Pairwise.nil, List.Pairwise.nil⟩
  · unfold B0 at hr
    cases i with
    | zero =>
      have e : ([], []) = r := Option.some.inj hr
      rw [← e] at hm; simp at hm
    | succ i => simp at hr
/-- the first place of a row -/
def find (B : Bk) (r : Row) : Option Nat := B.idxOf? r
theorem find_some {B : Bk} {r : Row} {i : Nat} (h : find B r = some i) : B[i]? = some r := by
  unfold find at h
  rw [List.idxOf?_eq_some_iff] at h
  obtain ⟨h1, h2, _⟩ := h
  rw [List.getElem?_eq_getElem h1, h2]
theorem find_none {B : Bk} {r : Row} (h : find B r = none) : r ∉ B := by
  unfold find at h
  rw [List.idxOf?_eq_none_iff] at h
  exact h
theorem find_of {B : Bk} (nd : B.Nodup) {r : Row} {i : Nat} (h : B[i]? = some r) : find B r = some i := by
  cases e : find B r with
  | none => exact absurd (List.mem_of_getElem? h) (find_none e)
  | some j =>
    have h2 := find_some e
    obtain ⟨a1, b1⟩ := List.getElem?_eq_some_iff.mp h
    obtain ⟨a2, b2⟩ := List.getElem?_eq_some_iff.mp h2
    rw [(List.getElem_inj nd).mp (b2.trans b1.symm)]
def put (B : Bk) (r : Row) : Bk × Nat := match find B r with
  | some i => (B, i)
  | none => (B ++ [r], B.length)
/-- moves may be put -/
structure Fits (B : Bk) (r : Row) : Prop where
  srt : r.1.Pairwise (· < ·) ∧ r.2.Pairwise (· < ·)
  low : ∀ m ∈ r.1 ++ r.2, m < B.length
theorem put_get {B : Bk} {r : Row} : (put B r).1[(put B r).2]? = some r := by
  unfold put
  cases e : find B r with
  | some i => exact find_some e
  | none => simp
theorem put_ok {B : Bk} {r : Row} (ok : OkB B) (f : Fits B r) : OkB (put B r).1 := by
  unfold put
  cases e : find B r with
  | some i => exact ok
  | none =>
    have nr := find_none e
    refine ⟨?_, fun q hq => ?_, fun i q hq m hm => ?_, ?_⟩
    · show (B ++ [r])[0]? = _
      rw [List.getElem?_append_left ok.pos]; exact ok.zero
    · rcases List.mem_append.mp hq with h | h
      · exact ok.srt q h
      · rw [List.mem_singleton.mp h]; exact f.srt
    · have hq : (B ++ [r])[i]? = some q := hq
      by_cases hi : i < B.length
      · rw [List.getElem?_append_left hi] at hq
        exact ok.low i q hq m hm
      · rw [List.getElem?_append_right (Nat.le_of_not_lt hi)] at hq
        have h1 : i - B.length < 1 := (List.getElem?_eq_some_iff.mp hq).1
        have e1 : i = B.length := by omega
        subst e1
        rw [Nat.sub_self] at hq
        have e2 : r = q := Option.some.inj hq
        subst e2
        exact f.low m hm
    · show (B ++ [r]).Nodup
      rw [List.nodup_append]
      exact ⟨ok.nd, by simp, fun a ha b hb => by rw [List.mem_singleton.mp hb]; intro z; exact nr (z ▸ ha)⟩
theorem put_pre {B : Bk} {r : Row} : B <+: (put B r).1 := by
  unfold put
  cases find B r with
  | some i => exact List.prefix_refl _
  | none => exact List.prefix_append _ _
theorem pre_get {B B' : Bk} (h : B <+: B') {i : Nat} {r : Row} (e : B[i]? = some r) : B'[i]? = some r := by
  obtain ⟨t, rfl⟩ := h
  rw [List.getElem?_append_left (List.getElem?_eq_some_iff.mp e).1]; exact e
theorem pre_len {B B' : Bk} (h : B <+: B') : B.length ≤ B'.length := h.length_le

/-! ### reckoned along a book -/
section
variable {α : Type} (f : List α → List α → α) (d : α)
def evalB (B : Bk) : List α := B.foldl (fun acc r => acc ++ [f (r.1.map fun m => acc.getD m d) (r.2.map fun m => acc.getD m d)]) []
theorem evalB_snoc (B : Bk) (r : Row) : evalB f d (B ++ [r]) = evalB f d B ++ [f (r.1.map fun m => (evalB f d B).getD m d) (r.2.map fun m => (evalB f d B).getD m d)] := by
  unfold evalB
  rw [List.foldl_append]; rfl
theorem evalB_len (B : Bk) : (evalB f d B).length = B.length := by
  have h : ∀ (B : Bk) (acc : List α), (B.foldl (fun acc r => acc ++ [f (r.1.map fun m => acc.getD m d) (r.2.map fun m => acc.getD m d)]) acc).length = acc.length + B.length := by
    intro B
    induction B with
    | nil => intro acc; rfl
    | cons r B ih => intro acc; rw [List.foldl_cons, ih, List.length_append, List.length_cons]; simp; omega
  have := h B []
  simpa [evalB] using this
theorem evalB_pre {B B' : Bk} (h : B <+: B') : evalB f d B <+: evalB f d B' := by
  obtain ⟨t, rfl⟩ := h
  have g : ∀ (t : Bk), evalB f d B <+: evalB f d (B ++ t) := by
    intro t
    induction h : t.length generalizing t with
    | zero => rw [List.length_eq_zero_iff.mp h, List.append_nil]; exact List.prefix_refl _
    | succ n ih =>
      obtain ⟨t', r, rfl⟩ : ∃ t' r, t = t' ++ [r] := by
        have ne : t ≠ [] := by intro z; rw [z] at h; cases h
        exact ⟨t.dropLast, t.getLast ne, (List.dropLast_concat_getLast ne).symm⟩
      rw [← List.append_assoc, evalB_snoc]
      exact (ih t' (by simpa using h)).trans (List.prefix_append _ _)
  exact g t
def val (B : Bk) (g : Nat) : α := (evalB f d B).getD g d
theorem val_pre {B B' : Bk} (h : B <+: B') {g : Nat} (hg : g < B.length) : val f d B' g = val f d B g := by
  obtain ⟨t, e⟩ := evalB_pre f d h
  unfold val
  rw [← e, List.getD_eq_getElem?_getD, List.getD_eq_getElem?_getD, List.getElem?_append_left (by rw [evalB_len]; exact hg)]
theorem val_eqL {B : Bk} (low : ∀ (i : Nat) (r : Row), B[i]? = some r → ∀ m ∈ r.1 ++ r.2, m < i) {g : Nat} {r : Row} (h : B[g]? = some r) : val f d B g = f (r.1.map (val f d B)) (r.2.map (val f d B)) := by
  have lt := (List.getElem?_eq_some_iff.mp h).1
  have pre : B.take g ++ [r] <+: B := by
    have e : B.take (g + 1) = B.take g ++ [r] := by rw [List.take_add_one, h]; rfl
    rw [← e]; exact List.take_prefix _ _
  have hl : (B.take g).length = g := by rw [List.length_take]; omega
  have e1 : val f d B g = val f d (B.take g ++ [r]) g := val_pre f d pre (by rw [List.length_append, hl]; simp)
  have e2 : val f d (B.take g ++ [r]) g = f (r.1.map (val f d (B.take g))) (r.2.map (val f d (B.take g))) := by
    unfold val
    rw [evalB_snoc, List.getD_eq_getElem?_getD, List.getElem?_append_right (by rw [evalB_len, hl]; exact Nat.le_refl _), evalB_len, hl, Nat.sub_self]
    rfl
  have e3 : ∀ m, m < g → val f d (B.take g) m = val f d B m := fun m hm => (val_pre f d (List.take_prefix g B) (by rw [hl]; exact hm)).symm
  rw [e1, e2]
  congr 1
  · exact List.map_congr_left fun m hm => e3 m (low g r h m (List.mem_append_left _ hm))
  · exact List.map_congr_left fun m hm => e3 m (low g r h m (List.mem_append_right _ hm))
theorem val_eq {B : Bk} (ok : OkB B) {g : Nat} {r : Row} (h : B[g]? = some r) : val f d B g = f (r.1.map (val f d B)) (r.2.map (val f d B)) := val_eqL f d ok.low h
theorem evalB_get {B : Bk} {g : Nat} (h : g < B.length) : (evalB f d B)[g]? = some (val f d B g) := by
  unfold val
  rw [List.getD_eq_getElem?_getD]
  have : g < (evalB f d B).length := by rw [evalB_len]; exact h
  rw [List.getElem?_eq_getElem this]; rfl
end
/-- depth -/
def dpF (a b : List Nat) : Nat := (a ++ b).foldr (fun x m => max (x + 1) m) 0
def dp (B : Bk) (g : Nat) : Nat := val dpF 0 B g
theorem foldr_max_le {l : List Nat} {x : Nat} (h : x ∈ l) : x + 1 ≤ l.foldr (fun x m => max (x + 1) m) 0 := by
  induction l with
  | nil => simp at h
  | cons y l ih =>
    show x + 1 ≤ max (y + 1) (l.foldr (fun x m => max (x + 1) m) 0)
    rcases List.mem_cons.mp h with e | e
    · rw [e]; omega
    · have := ih e; omega
theorem foldr_max_in {l : List Nat} (h : l ≠ []) : ∃ x ∈ l, l.foldr (fun x m => max (x + 1) m) 0 = x + 1 := by
  induction l with
  | nil => exact absurd rfl h
  | cons y l ih =>
    by_cases e : l = []
    · subst e; exact ⟨y, by simp, by show max (y + 1) 0 = y + 1; omega⟩
    · obtain ⟨x, hx, e2⟩ := ih e
      show ∃ z ∈ y :: l, max (y + 1) (l.foldr (fun x m => max (x + 1) m) 0) = z + 1
      rw [e2]
      by_cases c : y + 1 ≤ x + 1
      · exact ⟨x, List.mem_cons_of_mem _ hx, by omega⟩
      · exact ⟨y, by simp, by omega⟩
theorem dp_ltL {B : Bk} (low : ∀ (i : Nat) (r : Row), B[i]? = some r → ∀ m ∈ r.1 ++ r.2, m < i) {g m : Nat} {r : Row} (h : B[g]? = some r) (hm : m ∈ r.1 ++ r.2) : dp B m < dp B g := by
  have e := val_eqL dpF 0 low h
  show dp B m + 1 ≤ dp B g
  unfold dp at *
  rw [e]
  refine foldr_max_le ?_
  rw [← List.map_append]
  exact List.mem_map_of_mem hm
theorem dp_lt {B : Bk} (ok : OkB B) {g m : Nat} {r : Row} (h : B[g]? = some r) (hm : m ∈ r.1 ++ r.2) : dp B m < dp B g := dp_ltL ok.low h hm
end G

namespace G
open PySem L2
/-! ### what is reached -/
def mvs (B : Bk) (g : Nat) : List Nat := match B[g]? with | some r => r.1 ++ r.2 | none => []
theorem mvs_at {B : Bk} {g : Nat} {r : Row} (h : B[g]? = some r) : mvs B g = r.1 ++ r.2 := by unfold mvs; rw [h]
structure Reach (B : Bk) (n : Nat) (ms : List Nat) : Prop where
  srt : ms.Pairwise (· < ·)
  low : ∀ m ∈ ms, m < B.length
  root : n ∈ ms
  cl : ∀ m ∈ ms, ∀ j ∈ mvs B m, j ∈ ms
  min : ∀ T : Nat → Prop, T n → (∀ m, T m → ∀ j ∈ mvs B m, T j) → ∀ m ∈ ms, T m
structure RInv (B : Bk) (n : Nat) (X : Nat → Prop) (F W : List Nat) : Prop where
  nd : F.Nodup
  low : ∀ m ∈ F, m < B.length
  root : n ∈ F
  wf : ∀ m ∈ W, m ∈ F
  cl : ∀ m ∈ F, m ∈ W ∨ X m ∨ ∀ j ∈ mvs B m, j ∈ F
  min : ∀ T : Nat → Prop, T n → (∀ m, T m → ∀ j ∈ mvs B m, T j) → ∀ m ∈ F, T m
theorem nodup_len : ∀ (n : Nat) (l : List Nat), l.Nodup → (∀ m ∈ l, m < n) → l.length ≤ n
  | 0, l, _, h => by
    cases l with
    | nil => exact Nat.le_refl _
    | cons a l => exact absurd (h a (List.mem_cons_self ..)) (Nat.not_lt_zero _)
  | n + 1, l, nd, h => by
    have h2 := nodup_len n (l.erase n) (nd.erase n) fun m hm => by
      have h3 := (List.Nodup.mem_erase_iff nd).mp hm
      have h4 := h m h3.2
      have h5 := h3.1
      omega
    have h3 := List.length_erase (l := l) (a := n)
    split at h3 <;> omega
theorem RInv.len {B : Bk} {n : Nat} {X : Nat → Prop} {F W : List Nat} (r : RInv B n X F W) : F.length ≤ B.length := nodup_len _ _ r.nd r.low
theorem RInv.one {B : Bk} {n : Nat} (h : n < B.length) : RInv B n (fun _ => False) [n] [n] := by
  refine ⟨by simp, fun m hm => ?_, by simp, fun m h => h, fun m hm => .inl hm, fun T t _ m hm => ?_⟩
  · rw [List.mem_singleton.mp hm]; exact h
  · rw [List.mem_singleton.mp hm]; exact t
theorem RInv.pop {B : Bk} {n h : Nat} {F W : List Nat} (r : RInv B n (fun _ => False) F (W ++ [h])) : RInv B n (fun m => m = h) F W := by
  refine ⟨r.nd, r.low, r.root, fun m hm => r.wf m (List.mem_append_left _ hm), fun m hm => ?_, r.min⟩
  rcases r.cl m hm with q | q | q
  · rcases List.mem_append.mp q with q | q
    · exact .inl q
    · exact .inr (.inl (List.mem_singleton.mp q))
  · exact q.elim
  · exact .inr (.inr q)
theorem RInv.end {B : Bk} {n h : Nat} {F W : List Nat} (r : RInv B n (fun m => m = h) F W) (c : ∀ j ∈ mvs B h, j ∈ F) : RInv B n (fun _ => False) F W := by
  refine ⟨r.nd, r.low, r.root, r.wf, fun m hm => ?_, r.min⟩
  rcases r.cl m hm with q | q | q
  · exact .inl q
  · subst q; exact .inr (.inr c)
  · exact .inr (.inr q)
theorem RInv.add {B : Bk} {n h j : Nat} {F W : List Nat} (r : RInv B n (fun m => m = h) F W) (hh : h ∈ F) (hj : j ∈ mvs B h) (jl : j < B.length) (nj : j ∉ F) : RInv B n (fun m => m = h) (F ++ [j]) (W ++ [j]) := by
  refine ⟨?_, fun m hm => ?_, List.mem_append_left _ r.root, fun m hm => ?_, fun m hm => ?_, fun T t c m hm => ?_⟩
  · rw [List.nodup_append]
    exact ⟨r.nd, by simp, fun a ha b hb => by rw [List.mem_singleton.mp hb]; intro z; rw [z] at ha; exact nj ha⟩
  · rcases List.mem_append.mp hm with q | q
    · exact r.low m q
    · rw [List.mem_singleton.mp q]; exact jl
  · rcases List.mem_append.mp hm with q | q
    · exact List.mem_append_left _ (r.wf m q)
    · exact List.mem_append_right _ q
  · rcases List.mem_append.mp hm with q | q
    · rcases r.cl m q with q | q | q
      · exact .inl (List.mem_append_left _ q)
      · exact .inr (.inl q)
      · exact .inr (.inr fun j hj => List.mem_append_left _ (q j hj))
    · exact .inl (List.mem_append_right _ q)
  · rcases List.mem_append.mp hm with q | q
    · exact r.min T t c m q
    · rw [List.mem_singleton.mp q]; exact c h (r.min T t c h hh) j hj
theorem RInv.fin {B : Bk} {n : Nat} {F ms : List Nat} (r : RInv B n (fun _ => False) F []) (hp : ms.Perm F) (hs : ms.Pairwise (· ≤ ·)) : Reach B n ms := by
  have nd : ms.Nodup := hp.nodup_iff.mpr r.nd
  refine ⟨?_, fun m hm => r.low m (hp.mem_iff.mp hm), hp.mem_iff.mpr r.root, fun m hm j hj => ?_, fun T t c m hm => r.min T t c m (hp.mem_iff.mp hm)⟩
  · have h2 : ms.Pairwise (fun a b => a ≤ b ∧ a ≠ b) := List.Pairwise.and hs nd
    exact h2.imp fun h => Nat.lt_of_le_of_ne h.1 h.2
  · rcases r.cl m (hp.mem_iff.mp hm) with q | q | q
    · cases q
    · exact q.elim
    · exact hp.mem_iff.mpr (q j hj)
/-- of ints back to numbers -/
theorem perm_nat {ys : List Int} {F : List Nat} (h : ys.Perm (nI F)) (s : ys.Pairwise (· ≤ ·)) : ∃ ms : List Nat, ys = nI ms ∧ ms.Perm F ∧ ms.Pairwise (· ≤ ·) := by
  have e : ys = nI (ys.map Int.toNat) := by
    unfold nI
    rw [List.map_map]
    refine (List.map_id _).symm.trans (List.map_congr_left fun y hy => ?_)
    obtain ⟨m, _, rfl⟩ := List.mem_map.mp (h.mem_iff.mp hy)
    rfl
  have e2 : (nI F).map Int.toNat = F := by
    unfold nI
    rw [List.map_map]
    exact (List.map_congr_left fun y _ => by rfl).trans (List.map_id _)
  refine ⟨_, e, ?_, ?_⟩
  · have := h.map Int.toNat
    rw [e2] at this
    exact this
  · rw [List.pairwise_map]
    exact s.imp fun h => by omega
theorem Reach.len {B : Bk} {n : Nat} {ms : List Nat} (r : Reach B n ms) : ms.length ≤ B.length := nodup_len _ _ (r.srt.imp fun h => Nat.ne_of_lt h) r.low
/-- the dict of what is found -/
def fD (F : List Nat) : List (Key × V) := F.map fun (m : Nat) => ((Sum.inl (m : Int) : Key), V.bl true)
theorem fD_keys (F : List Nat) : (fD F).map (·.1) = (nI F).map Sum.inl := by unfold fD nI; rw [List.map_map, List.map_map]; rfl
theorem fD_len (F : List Nat) : (fD F).length = F.length := by unfold fD; rw [List.length_map]
theorem fD_val (F : List Nat) (m : Nat) : (valV (fD F) (Sum.inl (m : Int))).isSome = decide (m ∈ F) := by
  induction F with
  | nil => rfl
  | cons a F ih =>
    show (valV ((Sum.inl (a : Int), V.bl true) :: fD F) _).isSome = _
    by_cases c : a = m
    · subst c
      rw [valV_pos rfl]
      simp
    · rw [valV_neg (by intro z; exact c (Int.ofNat.inj (Sum.inl.inj z))), ih]
      by_cases d : m ∈ F
      · rw [decide_eq_true d, decide_eq_true (List.mem_cons_of_mem _ d)]
      · rw [decide_eq_false d, decide_eq_false (fun z => by rcases List.mem_cons.mp z with q | q; exact c q.symm; exact d q)]
theorem fD_put (F : List Nat) (m : Nat) (h : m ∉ F) : putK (fD F) (Sum.inl (m : Int)) (.bl true) = fD (F ++ [m]) := by
  unfold putK
  rw [valV_any, fD_val, decide_eq_false h]
  unfold fD
  rw [List.map_append]
  rfl
section
variable {K : PySem.W.Frag} {H : Hp} {Q : VK}
def dN (l : List Nat) : List PyData := l.map fun (n : Nat) => PyData.int (n : Int)
theorem dpN : ∀ l : List Nat, DpAll K H (nV l) (dN l)
  | [] => .nil
  | _ :: l => .cons (.int _) (dpN l)
theorem layN : ∀ l : List Nat, PyData.canLayAll0 (dN l) = true
  | [] => rfl
  | n :: l => by
    show (PyData.canLay0 (.int (n : Int)) && PyData.canLayAll0 (dN l)) = true
    rw [layN l]; rfl
theorem depN : ∀ l : List Nat, PyData.depthAll (dN l) = 0
  | [] => rfl
  | n :: l => by
    show max (PyData.depth (.int (n : Int))) (PyData.depthAll (dN l)) = 0
    rw [depN l]; rfl
theorem shN (l : List Nat) : SeqAt.shaped (.list (dN l)) = true := by
  unfold SeqAt.shaped
  show (PyData.canLayAll0 (dN l) && decide (PyData.depthAll (dN l) + 1 ≤ 64)) = true
  rw [layN, depN]; rfl
theorem eqvNil (l : List Nat) : PyData.eqv (.list (dN l)) (.list []) = decide (l = []) := by
  cases l with
  | nil => rfl
  | cons a l => rfl
theorem w_neNil {a b : Addr} {l : List Nat} (ha : SqL K H a (nV l)) (hb : SqL K H b []) (q : Q (.bl (!decide (l = []))) H) : rNeD K (.ref a) (.ref b) H Q :=
  ⟨_, _, .lst ha (dpN l), .lst hb .nil, shN l, rfl, by rw [eqvNil]; exact q⟩
theorem w_eqNil {a b : Addr} {l : List Nat} (ha : SqL K H a (nV l)) (hb : SqL K H b []) (q : Q (.bl (decide (l = []))) H) : rEqD K (.ref a) (.ref b) H Q :=
  ⟨_, _, .lst ha (dpN l), .lst hb .nil, shN l, rfl, by rw [eqvNil]; exact q⟩
variable {σ : L2.St}
theorem w_disp {trs : List (TE × TE)} (h : ∀ p, H p = none → tPairs trs σ (upd H p (.dK [])) fun ps H2 => H2 p = some (.dK []) ∧ ∃ kvs : List (Key × V), ps = kvs.map (fun kv => (kV kv.1, kv.2)) ∧ kvs.length ≤ 15 ∧ Q (.ref p) (upd H2 p (.dK (mergeK [] kvs)))) : tDisp trs σ H Q := h
theorem w_pair {tk tv : TE} {r : List (TE × TE)} {R : List (V × V) → Hp → Prop} (h : tk σ H fun x H1 => tv σ H1 fun y H2 => tPairs r σ H2 fun ps H3 => R ((x, y) :: ps) H3) : tPairs ((tk, tv) :: r) σ H R := h
theorem w_pair0 {R : List (V × V) → Hp → Prop} (h : R [] H) : tPairs [] σ H R := h
end
end G

namespace G
open PySem L2 TL
/-! ### writings of games -/
theorem str_ext {x y : Str} (h : tl x = tl y) : x = y := ext_tl h
def slt (a b : Str) : Prop := tl a < tl b
instance (a b : Str) : Decidable (slt a b) := inferInstanceAs (Decidable (tl a < tl b))
theorem slt_irr (a : Str) : ¬ slt a a := List.lt_irrefl _
theorem slt_tr {a b c : Str} (h : slt a b) (h2 : slt b c) : slt a c := List.lt_trans h h2
theorem slt_tot {a b : Str} (h : ¬ slt a b) (h2 : ¬ slt b a) : a = b := str_ext (List.le_antisymm (List.not_lt.mp h2) (List.not_lt.mp h))
/-- in order, each once -/
def insS (x : Str) : List Str → List Str
  | [] => [x]
  | y :: l => if slt x y then x :: y :: l else if x = y then y :: l else y :: insS x l
def srtS (l : List Str) : List Str := l.foldr insS []
theorem mem_insS {x k : Str} : ∀ {l : List Str}, k ∈ insS x l ↔ k = x ∨ k ∈ l
  | [] => by simp [insS]
  | y :: l => by
    unfold insS
    split
    · simp
    · split
      · rename_i e; subst e; simp
      · rw [List.mem_cons, mem_insS (l := l), List.mem_cons]
        constructor
        · rintro (h | h | h)
          · exact .inr (.inl h)
          · exact .inl h
          · exact .inr (.inr h)
        · rintro (h | h | h)
          · exact .inr (.inl h)
          · exact .inl h
          · exact .inr (.inr h)
theorem insS_srt {x : Str} : ∀ {l : List Str}, l.Pairwise slt → (insS x l).Pairwise slt
  | [], _ => by simp [insS]
  | y :: l, h => by
    have h0 := h
    rw [List.pairwise_cons] at h
    unfold insS
    split
    · rename_i c
      rw [List.pairwise_cons]
      refine ⟨fun a ha => ?_, h0⟩
      rcases List.mem_cons.mp ha with e | e
      · rw [e]; exact c
      · exact slt_tr c (h.1 a e)
    · split
      · exact h0
      · rename_i c d
        rw [List.pairwise_cons]
        refine ⟨fun a ha => ?_, insS_srt h.2⟩
        rcases mem_insS.mp ha with e | e
        · rw [e]
          by_cases q : slt y x
          · exact q
          · exact absurd (slt_tot c q) d
        · exact h.1 a e
theorem srtS_srt : ∀ l : List Str, (srtS l).Pairwise slt
  | [] => List.Pairwise.nil
  | x :: l => insS_srt (srtS_srt l)
theorem mem_srtS {k : Str} : ∀ {l : List Str}, k ∈ srtS l ↔ k ∈ l
  | [] => Iff.rfl
  | x :: l => by
    show k ∈ insS x (srtS l) ↔ _
    rw [mem_insS, mem_srtS (l := l), List.mem_cons]
theorem sltl_ext : ∀ {a b : List Str}, a.Pairwise slt → b.Pairwise slt → (∀ k, k ∈ a ↔ k ∈ b) → a = b
  | [], [], _, _, _ => rfl
  | [], y :: b, _, _, h => absurd ((h y).mpr (List.mem_cons_self ..)) (by simp)
  | x :: a, [], _, _, h => absurd ((h x).mp (List.mem_cons_self ..)) (by simp)
  | x :: a, y :: b, ha, hb, h => by
    rw [List.pairwise_cons] at ha hb
    have e : x = y := by
      rcases List.mem_cons.mp ((h x).mp (List.mem_cons_self ..)) with e | e
      · exact e
      · rcases List.mem_cons.mp ((h y).mpr (List.mem_cons_self ..)) with e2 | e2
        · exact e2.symm
        · exact absurd (slt_tr (ha.1 y e2) (hb.1 x e)) (slt_irr _)
    subst e
    rw [sltl_ext ha.2 hb.2 fun k => ?_]
    constructor
    · intro hk
      rcases List.mem_cons.mp ((h k).mp (List.mem_cons_of_mem _ hk)) with e | e
      · subst e; exact absurd (ha.1 k hk) (slt_irr _)
      · exact e
    · intro hk
      rcases List.mem_cons.mp ((h k).mpr (List.mem_cons_of_mem _ hk)) with e | e
      · subst e; exact absurd (hb.1 k hk) (slt_irr _)
      · exact e
theorem srtS_of {l m : List Str} (s : m.Pairwise slt) (h : ∀ k, k ∈ m ↔ k ∈ l) : m = srtS l := sltl_ext s (srtS_srt l) fun k => (h k).trans mem_srtS.symm
theorem srtS_congr {l m : List Str} (h : ∀ k, k ∈ l ↔ k ∈ m) : srtS l = srtS m := sltl_ext (srtS_srt _) (srtS_srt _) fun k => by rw [mem_srtS, mem_srtS]; exact h k
theorem srtS_len : ∀ l : List Str, (srtS l).length ≤ l.length
  | [] => Nat.le_refl _
  | x :: l => by
    have h : ∀ m : List Str, (insS x m).length ≤ m.length + 1 := by
      intro m
      induction m with
      | nil => exact Nat.le_refl _
      | cons y m ih =>
        unfold insS
        split
        · exact Nat.le_refl _
        · split
          · exact Nat.le_succ _
          · rw [List.length_cons, List.length_cons]; omega
    have h2 := h (srtS l)
    have h3 := srtS_len l
    show (insS x (srtS l)).length ≤ l.length + 1
    omega
/-- what `sorted` gives of texts that all differ -/
theorem rising_pw : ∀ (l : List Str) (p : Str), PyProof.Rows.risingS p l = true → (p :: l).Pairwise fun a b => ¬ slt b a
  | [], p, _ => by simp
  | x :: l, p, h => by
    unfold PyProof.Rows.risingS at h
    rw [Bool.and_eq_true, PyProof.Rows.ltCps_eq] at h
    have h1 : ¬ slt x p := by
      have := h.1
      simpa [slt, tl] using this
    have ih := rising_pw l x h.2
    rw [List.pairwise_cons]
    refine ⟨fun a ha => ?_, ih⟩
    rcases List.mem_cons.mp ha with e | e
    · rw [e]; exact h1
    · intro q
      have h2 := (List.pairwise_cons.mp ih).1 a e
      by_cases c : slt a x
      · exact h2 c
      · by_cases d : slt x a
        · exact h1 (slt_tr d q)
        · have e2 := slt_tot c d
          rw [e2] at q; exact h1 q
theorem sorted_srt {xs ys : List Str} (hp : ys.Perm xs) (hs : PyProof.Rows.sortedS ys = true) (nd : xs.Nodup) : ys = srtS xs := by
  have pw : ys.Pairwise fun a b => ¬ slt b a := by
    cases ys with
    | nil => exact List.Pairwise.nil
    | cons x l => exact rising_pw l x hs
  have nd2 : ys.Nodup := hp.nodup_iff.mpr nd
  refine srtS_of ((List.Pairwise.and pw nd2).imp fun {a b} h => ?_) fun k => hp.mem_iff
  by_cases c : slt a b
  · exact c
  · exact absurd (slt_tot c h.1) h.2
/-- the text of a game over those of its moves -/
def txF (a b : List Str) : Str := if a = [] ∧ b = [] then "0" else ("{" : Str) ++ Txt.join "," (srtS a) ++ "|" ++ Txt.join "," (srtS b) ++ "}"
theorem txF_nil : txF [] [] = ("0" : Str) := by unfold txF; rw [if_pos ⟨rfl, rfl⟩]
theorem tl_app (x y : Str) : tl (x ++ y) = tl x ++ tl y := tl_append x y
theorem tl_jn (l : List Str) : tl (Txt.join "," l) = joinL [44] (l.map tl) := by
  rw [join_eq]; exact tl_join _ l
theorem c_0 : tl "0" = [48] := by decide +kernel
theorem c_lb : tl "{" = [123] := by decide +kernel
theorem c_bar : tl "|" = [124] := by decide +kernel
theorem c_rb : tl "}" = [125] := by decide +kernel
theorem txF_tl {a b : List Str} (h : ¬ (a = [] ∧ b = [])) : tl (txF a b) = 123 :: (joinL [44] ((srtS a).map tl) ++ 124 :: (joinL [44] ((srtS b).map tl) ++ [125])) := by
  unfold txF
  rw [if_neg h, tl_app, tl_app, tl_app, tl_app, tl_jn, tl_jn, c_lb, c_bar, c_rb]
  simp
/-- heads -/
theorem txF_head (a b : List Str) : ∃ c r, tl (txF a b) = c :: r ∧ (c = 48 ∨ c = 123) := by
  by_cases h : a = [] ∧ b = []
  · rw [h.1, h.2, txF_nil]; exact ⟨48, [], c_0, .inl rfl⟩
  · rw [txF_tl h]; exact ⟨_, _, rfl, .inr rfl⟩
theorem join_cut {c : Nat} (c1 : c ≠ 44) (c2 : c ≠ 48) (c3 : c ≠ 123) : ∀ {A A' : List (List Nat)} {u u' : List Nat}, (∀ x ∈ A, ∃ d r, x = d :: r ∧ (d = 48 ∨ d = 123)) → (∀ x ∈ A', ∃ d r, x = d :: r ∧ (d = 48 ∨ d = 123)) →
    (∀ x ∈ A, ∀ y ∈ A', ∀ s t, x ++ s = y ++ t → x = y ∧ s = t) → joinL [44] A ++ c :: u = joinL [44] A' ++ c :: u' → A = A' ∧ u = u'
  | [], [], u, u', _, _, _, h => ⟨rfl, (List.cons.inj h).2⟩
  | [], y :: A', u, u', _, h2, _, h => by
    obtain ⟨d, r, e, hd⟩ := h2 y (by simp)
    subst e
    have : c = d := by cases A' <;> exact (List.cons.inj h).1
    omega
  | x :: A, [], u, u', h1, _, _, h => by
    obtain ⟨d, r, e, hd⟩ := h1 x (by simp)
    subst e
    have : d = c := by cases A <;> exact (List.cons.inj h).1
    omega
  | x :: A, y :: A', u, u', h1, h2, h3, h => by
    have hxy := h3 x (by simp) y (by simp)
    cases A with
    | nil =>
      cases A' with
      | nil =>
        obtain ⟨e, e2⟩ := hxy _ _ h
        exact ⟨by rw [e], (List.cons.inj e2).2⟩
      | cons z A' =>
        have h : x ++ c :: u = y ++ (44 :: joinL [44] (z :: A')) ++ c :: u' := h
        rw [List.append_assoc] at h
        have e2 := (hxy _ _ h).2
        exact absurd (List.cons.inj e2).1 c1
    | cons w A =>
      cases A' with
      | nil =>
        have h : x ++ (44 :: joinL [44] (w :: A)) ++ c :: u = y ++ c :: u' := h
        rw [List.append_assoc] at h
        have e2 := (hxy _ _ h).2
        exact absurd (List.cons.inj e2).1.symm c1
      | cons z A' =>
        have h : x ++ (44 :: joinL [44] (w :: A)) ++ c :: u = y ++ (44 :: joinL [44] (z :: A')) ++ c :: u' := h
        rw [List.append_assoc, List.append_assoc] at h
        obtain ⟨e, e2⟩ := hxy _ _ h
        obtain ⟨e3, e4⟩ := join_cut c1 c2 c3 (fun x hx => h1 x (List.mem_cons_of_mem _ hx)) (fun x hx => h2 x (List.mem_cons_of_mem _ hx)) (fun x hx y hy => h3 x (List.mem_cons_of_mem _ hx) y (List.mem_cons_of_mem _ hy)) (List.cons.inj e2).2
        exact ⟨by rw [e, e3], e4⟩
/-- the text of a game of a book -/
def tx (B : Bk) (g : Nat) : Str := val txF "0" B g
theorem tx_at {B : Bk} (ok : OkB B) {g : Nat} {r : Row} (h : B[g]? = some r) : tx B g = txF (r.1.map (tx B)) (r.2.map (tx B)) := val_eq txF _ ok h
theorem tx_head {B : Bk} (ok : OkB B) {g : Nat} (h : g < B.length) : ∃ c r, tl (tx B g) = c :: r ∧ (c = 48 ∨ c = 123) := by
  rw [tx_at ok (List.getElem?_eq_getElem h)]
  exact txF_head _ _
theorem tx_pre {B : Bk} (ok : OkB B) : ∀ (i : Nat), i < B.length → ∀ (j : Nat), j < B.length → ∀ s t, tl (tx B i) ++ s = tl (tx B j) ++ t → i = j ∧ s = t := by
  intro i
  induction i using Nat.strongRecOn with
  | ind i ih =>
    intro hi j hj s t h
    have ri := List.getElem?_eq_getElem hi
    have rj := List.getElem?_eq_getElem hj
    generalize B[i] = r at ri
    generalize B[j] = q at rj
    have ei := tx_at ok ri
    have ej := tx_at ok rj
    have li := ok.low i r ri
    have lj := ok.low j q rj
    have key : r = q → i = j := fun e => by
      exact (List.getElem?_inj hi ok.nd).mp (by rw [ri, rj, e])
    by_cases ni : r.1.map (tx B) = [] ∧ r.2.map (tx B) = []
    · have er : r = ([], []) := Prod.ext (List.map_eq_nil_iff.mp ni.1) (List.map_eq_nil_iff.mp ni.2)
      rw [ei, ni.1, ni.2, txF_nil, c_0] at h
      by_cases nj : q.1.map (tx B) = [] ∧ q.2.map (tx B) = []
      · have eq : q = ([], []) := Prod.ext (List.map_eq_nil_iff.mp nj.1) (List.map_eq_nil_iff.mp nj.2)
        rw [ej, nj.1, nj.2, txF_nil, c_0] at h
        exact ⟨key (er.trans eq.symm), (List.cons.inj h).2⟩
      · rw [ej, txF_tl nj] at h
        exact absurd (List.cons.inj h).1 (by decide)
    · by_cases nj : q.1.map (tx B) = [] ∧ q.2.map (tx B) = []
      · rw [ei, txF_tl ni, ej, nj.1, nj.2, txF_nil, c_0] at h
        exact absurd (List.cons.inj h).1 (by decide)
      · rw [ei, txF_tl ni, ej, txF_tl nj, List.cons_append, List.cons_append] at h
        have h := (List.cons.inj h).2
        rw [List.append_assoc, List.append_assoc, List.cons_append, List.cons_append] at h
        have hd : ∀ {l : List Nat}, (∀ m ∈ l, m < B.length) → ∀ x ∈ (srtS (l.map (tx B))).map tl, ∃ d r, x = d :: r ∧ (d = 48 ∨ d = 123) := fun {l} hl x hx => by
          obtain ⟨y, hy, rfl⟩ := List.mem_map.mp hx
          obtain ⟨m, hm, rfl⟩ := List.mem_map.mp (mem_srtS.mp hy)
          exact tx_head ok (hl m hm)
        have hp : ∀ {l l' : List Nat}, (∀ m ∈ l, m < i) → (∀ m ∈ l', m < B.length) → ∀ x ∈ (srtS (l.map (tx B))).map tl, ∀ y ∈ (srtS (l'.map (tx B))).map tl, ∀ s t, x ++ s = y ++ t → x = y ∧ s = t := fun {l l'} hl hl' x hx y hy s t e => by
          obtain ⟨x2, hx2, rfl⟩ := List.mem_map.mp hx
          obtain ⟨m, hm, rfl⟩ := List.mem_map.mp (mem_srtS.mp hx2)
          obtain ⟨y2, hy2, rfl⟩ := List.mem_map.mp hy
          obtain ⟨m', hm', rfl⟩ := List.mem_map.mp (mem_srtS.mp hy2)
          obtain ⟨e1, e2⟩ := ih m (hl m hm) (by have := hl m hm; omega) m' (hl' m' hm') s t e
          exact ⟨by rw [e1], e2⟩
        have a1 : ∀ m ∈ r.1, m < i := fun m hm => li m (List.mem_append_left _ hm)
        have a2 : ∀ m ∈ r.2, m < i := fun m hm => li m (List.mem_append_right _ hm)
        have b1 : ∀ m ∈ q.1, m < B.length := fun m hm => by have := lj m (List.mem_append_left _ hm); omega
        have b2 : ∀ m ∈ q.2, m < B.length := fun m hm => by have := lj m (List.mem_append_right _ hm); omega
        have up : ∀ {l : List Nat}, (∀ m ∈ l, m < i) → ∀ m ∈ l, m < B.length := fun h m hm => by have := h m hm; omega
        obtain ⟨e1, h⟩ := join_cut (by decide) (by decide) (by decide) (hd (up a1)) (hd b1) (hp a1 b1) h
        rw [List.append_assoc, List.append_assoc, List.singleton_append, List.singleton_append] at h
        obtain ⟨e2, h⟩ := join_cut (by decide) (by decide) (by decide) (hd (up a2)) (hd b2) (hp a2 b2) h
        have h := h
        have same : ∀ {l l' : List Nat}, (∀ m ∈ l, m < i) → (∀ m ∈ l', m < B.length) → l.Pairwise (· < ·) → l'.Pairwise (· < ·) → (srtS (l.map (tx B))).map tl = (srtS (l'.map (tx B))).map tl → l = l' := fun {l l'} hl hl' s1 s2 e => by
          have e := map_tl_inj e
          have me : ∀ k, k ∈ l.map (tx B) ↔ k ∈ l'.map (tx B) := fun k => by rw [← mem_srtS, e, mem_srtS]
          refine srt_ext s1 s2 fun m => ⟨fun hm => ?_, fun hm => ?_⟩
          · obtain ⟨m', hm', e3⟩ := List.mem_map.mp ((me _).mp (List.mem_map_of_mem hm))
            have e4 := (ih m (hl m hm) (up hl m hm) m' (hl' m' hm') [] [] (by rw [e3])).1
            rw [e4]; exact hm'
          · obtain ⟨m', hm', e3⟩ := List.mem_map.mp ((me _).mpr (List.mem_map_of_mem hm))
            have e4 := (ih m' (hl m' hm') (up hl m' hm') m (hl' m hm) [] [] (by rw [e3])).1
            rw [← e4]; exact hm'
        have sr := ok.srt r (List.mem_of_getElem? ri)
        have sq := ok.srt q (List.mem_of_getElem? rj)
        exact ⟨key (Prod.ext (same a1 b1 sr.1 sq.1 e1) (same a2 b2 sr.2 sq.2 e2)), h⟩
theorem tx_inj {B : Bk} (ok : OkB B) {i j : Nat} (hi : i < B.length) (hj : j < B.length) (h : tx B i = tx B j) : i = j := (tx_pre ok i hi j hj [] [] (by rw [h])).1
def sV (l : List Str) : List V := l.map V.str
theorem sV_len (l : List Str) : (sV l).length = l.length := by unfold sV; rw [List.length_map]
/-- the dict of texts -/
def tD (f : Nat → Str) (l : List Nat) : List (Key × V) := l.map fun (m : Nat) => ((Sum.inl (m : Int) : Key), V.str (f m))
theorem tD_len (f : Nat → Str) (l : List Nat) : (tD f l).length = l.length := by unfold tD; rw [List.length_map]
theorem tD_val (f : Nat → Str) (l : List Nat) (m : Nat) : valV (tD f l) (Sum.inl (m : Int)) = if m ∈ l then some (.str (f m)) else none := by
  induction l with
  | nil => rfl
  | cons a l ih =>
    show valV ((Sum.inl (a : Int), V.str (f a)) :: tD f l) _ = _
    by_cases c : a = m
    · subst c
      rw [valV_pos rfl, if_pos (by simp)]
    · rw [valV_neg (by intro z; exact c (Int.ofNat.inj (Sum.inl.inj z))), ih]
      by_cases d : m ∈ l
      · rw [if_pos d, if_pos (List.mem_cons_of_mem _ d)]
      · rw [if_neg d, if_neg (fun z => by rcases List.mem_cons.mp z with q | q; exact c q.symm; exact d q)]
theorem tD_get {f : Nat → Str} {l : List Nat} {m : Nat} (h : m ∈ l) : valV (tD f l) (Sum.inl (m : Int)) = some (.str (f m)) := by rw [tD_val, if_pos h]
theorem tD_put (f : Nat → Str) (l : List Nat) (m : Nat) (h : m ∉ l) : putK (tD f l) (Sum.inl (m : Int)) (.str (f m)) = tD f (l ++ [m]) := by
  unfold putK
  rw [valV_any, tD_val, if_neg h]
  unfold tD
  rw [List.map_append]
  rfl
theorem tx_zero {B : Bk} (ok : OkB B) : tx B 0 = ("0" : Str) := by rw [tx_at ok ok.zero]; exact txF_nil
theorem tx_pos {B : Bk} (ok : OkB B) {g : Nat} {r : Row} (h : B[g]? = some r) (hg : g ≠ 0) : tx B g = ("{" : Str) ++ Txt.join "," (srtS (r.1.map (tx B))) ++ "|" ++ Txt.join "," (srtS (r.2.map (tx B))) ++ "}" := by
  rw [tx_at ok h]
  unfold txF
  rw [if_neg]
  rintro ⟨a, b⟩
  have er : r = ([], []) := Prod.ext (List.map_eq_nil_iff.mp a) (List.map_eq_nil_iff.mp b)
  have lt := (List.getElem?_eq_some_iff.mp h).1
  exact hg ((List.getElem?_inj lt ok.nd).mp (by rw [h, ok.zero, er]))
theorem tx_nodup {B : Bk} (ok : OkB B) {l : List Nat} (s : l.Pairwise (· < ·)) (h : ∀ m ∈ l, m < B.length) : (l.map (tx B)).Nodup := by
  unfold List.Nodup
  rw [List.pairwise_map]
  refine s.imp_of_mem fun {a b} ha hb hab e => ?_
  have := tx_inj ok (h a ha) (h b hb) e
  omega
theorem sum_le {c : Nat} : ∀ {l : List Str}, (∀ x ∈ l, x.length ≤ c) → (l.map (·.length)).sum ≤ l.length * c
  | [], _ => by simp
  | x :: l, h => by
    have h1 := sum_le (l := l) fun y hy => h y (List.mem_cons_of_mem _ hy)
    have h2 := h x (by simp)
    rw [List.map_cons, List.sum_cons, List.length_cons, Nat.add_mul]
    omega
theorem len_app (x y : Str) : (x ++ y).length = x.length + y.length := by
  rw [len_tl, len_tl, len_tl, tl_append, List.length_append]
theorem joinL_len : ∀ l : List (List Nat), (joinL [44] l).length ≤ (l.map List.length).sum + l.length
  | [] => by simp [joinL]
  | [p] => by simp [joinL]
  | p :: q :: r => by
    have := joinL_len (q :: r)
    show (p ++ ([44] ++ joinL [44] (q :: r))).length ≤ _
    rw [List.length_append, List.length_append, List.map_cons, List.sum_cons, List.length_cons (as := q :: r)]
    simp only [List.length_singleton]
    omega
theorem join_len (l : List Str) : (Txt.join "," l).length ≤ (l.map (·.length)).sum + l.length := by
  rw [len_tl, tl_jn]
  have := joinL_len (l.map tl)
  rw [List.length_map, List.map_map] at this
  have e : l.map (List.length ∘ tl) = l.map (·.length) := List.map_congr_left fun x _ => (len_tl x).symm
  rw [e] at this
  exact this
theorem w_dgetR {H : Hp} {R : V → Prop} {v : V} {a : Addr} {kvs : List (Key × V)} {k : Key} (e : H a = some (.dK kvs)) (hv : valV kvs k = some v) (q : R v) : ∃ a' v, V.ref a = .ref a' ∧ DGet H a' (kV k) (some v) ∧ R v := ⟨a, v, rfl, by have g := DGet.k (k := k) e; rw [hv] at g; exact g, q⟩
theorem w_dputR {H : Hp} {R : Hp → Prop} {v : V} {a : Addr} {kvs : List (Key × V)} {k : Key} (e : H a = some (.dK kvs)) (hl : kvs.length < sizeLine) (q : R (upd H a (.dK (putK kvs k v)))) : ∃ a' H4, V.ref a = .ref a' ∧ DPut H a' (kV k) v H4 ∧ R H4 := ⟨a, _, rfl, DPut.k e hl, q⟩
end G

namespace G
open PySem L2 TL
/-! ### tables of rows -/
structure Tb (d w : Nat) (tab : Bk) : Prop where
  zero : tab[0]? = some ([], [])
  low : ∀ (i : Nat) (r : Row), tab[i]? = some r → ∀ m ∈ r.1 ++ r.2, m < i
  dep : ∀ i, i < tab.length → dp tab i ≤ d
  side : ∀ r ∈ tab, r.1.length ≤ w ∧ r.2.length ≤ w
theorem Tb.pos {d w : Nat} {tab : Bk} (t : Tb d w tab) : 0 < tab.length := (List.getElem?_eq_some_iff.mp t.zero).1
theorem foldr_max_bd {l : List Nat} {d : Nat} (h : ∀ x ∈ l, x < d) : l.foldr (fun x m => max (x + 1) m) 0 ≤ d := by
  induction l with
  | nil => exact Nat.zero_le _
  | cons y l ih =>
    have h1 := ih fun x hx => h x (List.mem_cons_of_mem _ hx)
    have h2 := h y (by simp)
    show max (y + 1) (l.foldr (fun x m => max (x + 1) m) 0) ≤ d
    omega
theorem eval_snoc {α : Type} (f : List α → List α → α) (d : α) (B : Bk) (r : Row) : evalB f d (B ++ [r]) = evalB f d B ++ [f (r.1.map (val f d B)) (r.2.map (val f d B))] := evalB_snoc f d B r
theorem val_last {α : Type} (f : List α → List α → α) (d : α) (B : Bk) (r : Row) : val f d (B ++ [r]) B.length = f (r.1.map (val f d B)) (r.2.map (val f d B)) := by
  unfold val
  rw [evalB_snoc, List.getD_eq_getElem?_getD, List.getElem?_append_right (by rw [evalB_len]; exact Nat.le_refl _), evalB_len, Nat.sub_self]
  rfl
theorem val_snoc {α : Type} (f : List α → List α → α) (d : α) {B : Bk} (r : Row) {g : Nat} (h : g < B.length) : val f d (B ++ [r]) g = val f d B g := val_pre f d (List.prefix_append _ _) h
theorem dp_snoc {B : Bk} (r : Row) {g : Nat} (h : g < B.length) : dp (B ++ [r]) g = dp B g := val_snoc dpF 0 r h
theorem dp_last (B : Bk) (r : Row) : dp (B ++ [r]) B.length = ((r.1 ++ r.2).map (dp B)).foldr (fun x m => max (x + 1) m) 0 := by
  unfold dp
  rw [val_last, List.map_append]
  rfl
theorem Tb.one (d w : Nat) : Tb d w [([], [])] := by
  refine ⟨rfl, fun i r hr m hm => ?_, fun i hi => ?_, fun r hr => ?_⟩
  · cases i with
    | zero =>
      have e : ([], []) = r := Option.some.inj hr
      rw [← e] at hm; simp at hm
    | succ i => simp at hr
  · have e : i = 0 := by simpa using hi
    subst e
    exact Nat.zero_le _
  · rw [List.mem_singleton.mp hr]; exact ⟨Nat.zero_le _, Nat.zero_le _⟩
theorem low_snoc {B : Bk} {r : Row} (low : ∀ (i : Nat) (r : Row), B[i]? = some r → ∀ m ∈ r.1 ++ r.2, m < i) (h : ∀ m ∈ r.1 ++ r.2, m < B.length) : ∀ (i : Nat) (q : Row), (B ++ [r])[i]? = some q → ∀ m ∈ q.1 ++ q.2, m < i := by
  intro i q hq m hm
  by_cases c : i < B.length
  · rw [List.getElem?_append_left c] at hq; exact low i q hq m hm
  · rw [List.getElem?_append_right (by omega)] at hq
    have hl := (List.getElem?_eq_some_iff.mp hq).1
    have e : i = B.length := by simp at hl; omega
    subst e
    rw [Nat.sub_self] at hq
    have e : r = q := Option.some.inj hq
    rw [← e] at hm
    exact h m hm
theorem Tb.snoc {d w : Nat} {tab : Bk} {r : Row} (t : Tb d w tab) (h : ∀ m ∈ r.1 ++ r.2, m < tab.length ∧ dp tab m < d) (s : r.1.length ≤ w ∧ r.2.length ≤ w) : Tb d w (tab ++ [r]) := by
  refine ⟨?_, low_snoc t.low fun m hm => (h m hm).1, fun i hi => ?_, fun q hq => ?_⟩
  · rw [List.getElem?_append_left t.pos]; exact t.zero
  · by_cases c : i < tab.length
    · rw [dp_snoc r c]; exact t.dep i c
    · have e : i = tab.length := by rw [List.length_append, List.length_singleton] at hi; omega
      subst e
      rw [dp_last]
      exact foldr_max_bd fun x hx => by
        obtain ⟨m, hm, rfl⟩ := List.mem_map.mp hx
        exact (h m hm).2
  · rcases List.mem_append.mp hq with e | e
    · exact t.side q e
    · rw [List.mem_singleton.mp e]; exact s
theorem Tb.dp0 {d w : Nat} {tab : Bk} (t : Tb d w tab) : dp tab 0 = 0 := by
  have := val_eqL dpF 0 t.low t.zero
  exact this
/-- a table on a heap; N tells of its lists -/
structure TabAt (H : Hp) (p : Addr) (tab : Bk) (N : Addr → Prop) : Prop where
  ex : ∃ ts : List V, H p = some (.lst ts) ∧ ts.length = tab.length ∧ ∀ (i : Nat) (r : Row), tab[i]? = some r → ∃ t l q, ts[i]? = some (.ref t) ∧ H t = some (.tup [.ref l, .ref q]) ∧ H l = some (.lst (nV r.1)) ∧ H q = some (.lst (nV r.2)) ∧ N l ∧ N q
theorem TabAt.fr {H H' : Hp} {p : Addr} {tab : Bk} {N M : Addr → Prop} {S : List Addr} (t : TabAt H p tab N) (f : Fr S H H') (hp : p ∉ S) (hN : ∀ a o, H a = some o → N a → a ∉ S ∧ M a) : TabAt H' p tab M := by
  obtain ⟨ts, h1, h2, h3⟩ := t.ex
  refine ⟨ts, f.kp _ _ h1 hp, h2, fun i r hr => ?_⟩
  obtain ⟨t, l, q, a1, a2, a3, a4, a5, a6⟩ := h3 i r hr
  exact ⟨t, l, q, a1, f.tup a2, f.kp _ _ a3 (hN _ _ a3 a5).1, f.kp _ _ a4 (hN _ _ a4 a6).1, (hN _ _ a3 a5).2, (hN _ _ a4 a6).2⟩
theorem TabAt.fr0 {H H' : Hp} {p : Addr} {tab : Bk} {N : Addr → Prop} (t : TabAt H p tab N) (f : Fr [] H H') : TabAt H' p tab N := t.fr f (by simp) fun _ _ _ n => ⟨by simp, n⟩
/-- a row is appended -/
theorem TabAt.snoc {H H' : Hp} {p : Addr} {tab : Bk} {N : Addr → Prop} {ts : List V} {r : Row} {t l q : Addr} (h : TabAt H p tab N) (h1 : H p = some (.lst ts)) (f : Fr [p] H H') (h2 : H' p = some (.lst (ts ++ [.ref t]))) (hN : ∀ a, N a → a ≠ p)
    (a2 : H' t = some (.tup [.ref l, .ref q])) (a3 : H' l = some (.lst (nV r.1))) (a4 : H' q = some (.lst (nV r.2))) (a5 : N l) (a6 : N q) : TabAt H' p (tab ++ [r]) N := by
  obtain ⟨us, e1, e2, e3⟩ := h.ex
  rw [h1] at e1
  cases e1
  refine ⟨_, h2, by rw [List.length_append, List.length_append, e2]; rfl, fun i q hq => ?_⟩
  by_cases c : i < tab.length
  · rw [List.getElem?_append_left c] at hq
    obtain ⟨t, l, q, b1, b2, b3, b4, b5, b6⟩ := e3 i q hq
    exact ⟨t, l, q, by rw [List.getElem?_append_left (by rw [e2]; exact c)]; exact b1, f.tup b2, f.kp _ _ b3 (by simpa using hN _ b5), f.kp _ _ b4 (by simpa using hN _ b6), b5, b6⟩
  · have hl := (List.getElem?_eq_some_iff.mp hq).1
    have e : i = tab.length := by rw [List.length_append, List.length_singleton] at hl; omega
    subst e
    rw [List.getElem?_append_right (Nat.le_refl _), Nat.sub_self] at hq
    have e : r = q := Option.some.inj hq
    subst e
    exact ⟨t, l, _, by rw [List.getElem?_append_right (by rw [e2]; exact Nat.le_refl _), e2, Nat.sub_self]; rfl, a2, a3, a4, a5, a6⟩
theorem Fr.thru {H A A' : Hp} {s : Addr} (f : Fr [] H A) (h : H s = none) (g : Fr [s] A A') : Fr [] H A' :=
  ⟨fun a o e _ => g.kp a o (f.kp a o e (by simp)) (by simpa using ne_of_none e h), fun a o e x => g.fx a o (f.fx a o e x) x, fun a e => f.fr a (g.fr a e)⟩
/-- the places whose depth is below d -/
def lowN (tab : Bk) (d n : Nat) : List Nat := (List.range n).filter fun m => decide (dp tab m < d)
theorem lowN_succ (tab : Bk) (d n : Nat) : lowN tab d (n + 1) = lowN tab d n ++ (if dp tab n < d then [n] else []) := by
  unfold lowN
  rw [List.range_succ, List.filter_append]
  congr 1
  by_cases c : dp tab n < d
  · rw [if_pos c]; simp [c]
  · rw [if_neg c]; simp [c]
theorem lowN_mem {tab : Bk} {d n m : Nat} (h : m ∈ lowN tab d n) : m < n ∧ dp tab m < d := by
  unfold lowN at h
  rw [List.mem_filter, List.mem_range] at h
  exact ⟨h.1, of_decide_eq_true h.2⟩
theorem lowN_len (tab : Bk) (d n : Nat) : (lowN tab d n).length ≤ n := by
  unfold lowN
  have := List.length_filter_le (fun m => decide (dp tab m < d)) (List.range n)
  rw [List.length_range] at this
  exact this
theorem lowN_pos {tab : Bk} {d w n : Nat} (t : Tb d w tab) (hd : 0 < d) (hn : 0 < n) : 0 < (lowN tab d n).length := by
  have : 0 ∈ lowN tab d n := by
    unfold lowN
    rw [List.mem_filter, List.mem_range]
    exact ⟨hn, decide_eq_true (by rw [t.dp0]; exact hd)⟩
  exact List.length_pos_iff.mpr fun e => by rw [e] at this; simp at this
/-- the deepest of some, and zero -/
theorem max_eq {l : List Nat} {m : Int} (h1 : m ∈ (0 : Int) :: l.map fun (x : Nat) => ((x : Int) + 1)) (h2 : ∀ y, y ∈ (0 : Int) :: l.map (fun (x : Nat) => ((x : Int) + 1)) → y ≤ m) : m = ((l.foldr (fun x m => max (x + 1) m) 0 : Nat) : Int) := by
  by_cases e : l = []
  · subst e
    rcases List.mem_cons.mp h1 with q | q
    · rw [q]; rfl
    · simp at q
  · obtain ⟨x, hx, e2⟩ := foldr_max_in e
    rw [e2]
    have a1 := h2 ((x : Int) + 1) (List.mem_cons_of_mem _ (List.mem_map.mpr ⟨x, hx, rfl⟩))
    rcases List.mem_cons.mp h1 with q | q
    · omega
    · obtain ⟨y, hy, e3⟩ := List.mem_map.mp q
      have := foldr_max_le hy
      omega
/-! ### tables put into a book -/
def nm (nums : List Nat) (m : Nat) : Nat := nums.getD m 0
theorem nm_app {a b : List Nat} {m : Nat} (h : m < a.length) : nm (a ++ b) m = nm a m := by
  unfold nm
  rw [List.getD_eq_getElem?_getD, List.getD_eq_getElem?_getD, List.getElem?_append_left h]
theorem nm_last (a : List Nat) (x : Nat) : nm (a ++ [x]) a.length = x := by
  unfold nm
  rw [List.getD_eq_getElem?_getD, List.getElem?_append_right (Nat.le_refl _), Nat.sub_self]; rfl
theorem nm_mem {a : List Nat} {m : Nat} (h : m < a.length) : nm a m ∈ a := by
  unfold nm
  rw [List.getD_eq_getElem?_getD, List.getElem?_eq_getElem h]
  exact List.getElem_mem h
theorem nm_get {a : List Nat} {m : Nat} (h : m < a.length) : a[m]? = some (nm a m) := by
  unfold nm
  rw [List.getD_eq_getElem?_getD, List.getElem?_eq_getElem h]; rfl
def rowN (nums : List Nat) (r : Row) : Row := (nrm (r.1.map (nm nums)), nrm (r.2.map (nm nums)))
structure PutI (B0 tab : Bk) (i : Nat) (nums : List Nat) (B : Bk) : Prop where
  ok : OkB B
  pre : B0 <+: B
  len : nums.length = i
  at' : ∀ (j : Nat) (r : Row), j < i → tab[j]? = some r → B[nm nums j]? = some (rowN nums r)
  low : ∀ m ∈ nums, m < B.length
  all : ∀ m, m < B.length → m < B0.length ∨ m ∈ nums
  size : B.length ≤ B0.length + i
theorem PutI.zero {B : Bk} (ok : OkB B) (tab : Bk) : PutI B tab 0 [] B := ⟨ok, List.prefix_refl _, rfl, fun _ _ h => absurd h (Nat.not_lt_zero _), by simp, fun m h => .inl h, Nat.le_refl _⟩
theorem rowN_app {nums b : List Nat} {r : Row} (h : ∀ m ∈ r.1 ++ r.2, m < nums.length) : rowN (nums ++ b) r = rowN nums r := by
  unfold rowN
  rw [List.map_congr_left fun m hm => nm_app (h m (List.mem_append_left _ hm)), List.map_congr_left fun m hm => nm_app (h m (List.mem_append_right _ hm))]
theorem put_low {B : Bk} {r : Row} : (put B r).2 < (put B r).1.length := (List.getElem?_eq_some_iff.mp put_get).1
theorem put_size {B : Bk} {r : Row} : (put B r).1.length ≤ B.length + 1 := by
  unfold put
  cases find B r with
  | some i => exact Nat.le_succ _
  | none => show (B ++ [r]).length ≤ _; rw [List.length_append]; exact Nat.le_refl _
theorem put_all {B : Bk} {r : Row} {m : Nat} (h : m < (put B r).1.length) : m < B.length ∨ m = (put B r).2 := by
  unfold put at *
  cases e : find B r with
  | some i => rw [e] at h; exact .inl h
  | none =>
    rw [e] at h
    have h : m < (B ++ [r]).length := h
    rw [List.length_append, List.length_singleton] at h
    by_cases c : m < B.length
    · exact .inl c
    · exact .inr (show m = B.length by omega)
theorem PutI.fits {B0 tab B : Bk} {i : Nat} {nums : List Nat} (p : PutI B0 tab i nums B) {r : Row} (h : ∀ m ∈ r.1 ++ r.2, m < i) : Fits B (rowN nums r) := by
  refine ⟨⟨nrm_srt _, nrm_srt _⟩, fun m hm => ?_⟩
  rcases List.mem_append.mp hm with q | q
  · obtain ⟨j, hj, rfl⟩ := List.mem_map.mp (mem_nrm.mp q)
    exact p.low _ (nm_mem (by rw [p.len]; exact h j (List.mem_append_left _ hj)))
  · obtain ⟨j, hj, rfl⟩ := List.mem_map.mp (mem_nrm.mp q)
    exact p.low _ (nm_mem (by rw [p.len]; exact h j (List.mem_append_right _ hj)))
theorem PutI.step {B0 tab B : Bk} {i : Nat} {nums : List Nat} {r : Row} (p : PutI B0 tab i nums B) (hr : tab[i]? = some r) (low : ∀ (i : Nat) (r : Row), tab[i]? = some r → ∀ m ∈ r.1 ++ r.2, m < i) :
    PutI B0 tab (i + 1) (nums ++ [(put B (rowN nums r)).2]) (put B (rowN nums r)).1 := by
  have ft := p.fits (low i r hr)
  refine ⟨put_ok p.ok ft, p.pre.trans put_pre, by rw [List.length_append, p.len]; rfl, fun j q hj hq => ?_, fun m hm => ?_, fun m hm => ?_, ?_⟩
  · have lj := low j q hq
    by_cases c : j < i
    · rw [nm_app (by rw [p.len]; exact c), rowN_app fun m hm => by have := lj m hm; rw [p.len]; omega]
      exact pre_get put_pre (p.at' j q c hq)
    · have e : j = i := by omega
      subst e
      rw [hr] at hq
      cases hq
      rw [rowN_app fun m hm => by have := lj m hm; rw [p.len]; omega]
      have e2 : nm (nums ++ [(put B (rowN nums r)).2]) j = (put B (rowN nums r)).2 := by rw [← p.len, nm_last]
      rw [e2]
      exact put_get
  · rcases List.mem_append.mp hm with q | q
    · have := p.low m q
      have h2 := pre_len (put_pre (B := B) (r := rowN nums r))
      omega
    · rw [List.mem_singleton.mp q]; exact put_low
  · rcases put_all hm with q | q
    · rcases p.all m q with h | h
      · exact .inl h
      · exact .inr (List.mem_append_left _ h)
    · exact .inr (List.mem_append_right _ (by rw [q]; simp))
  · have := put_size (B := B) (r := rowN nums r)
    have := p.size
    omega
/-- the texts of a table -/
def tt (tab : Bk) (i : Nat) : Str := val txF "0" tab i
theorem tt_at {tab : Bk} (low : ∀ (i : Nat) (r : Row), tab[i]? = some r → ∀ m ∈ r.1 ++ r.2, m < i) {g : Nat} {r : Row} (h : tab[g]? = some r) : tt tab g = txF (r.1.map (tt tab)) (r.2.map (tt tab)) := val_eqL txF _ low h
theorem txF_congr {a b a' b' : List Str} (h1 : ∀ k, k ∈ a ↔ k ∈ a') (h2 : ∀ k, k ∈ b ↔ k ∈ b') : txF a b = txF a' b' := by
  have nil : ∀ {l m : List Str}, (∀ k, k ∈ l ↔ k ∈ m) → (l = [] ↔ m = []) := fun {l m} h => by
    rw [List.eq_nil_iff_forall_not_mem, List.eq_nil_iff_forall_not_mem]
    exact ⟨fun q k hk => q k ((h k).mpr hk), fun q k hk => q k ((h k).mp hk)⟩
  unfold txF
  rw [srtS_congr h1, srtS_congr h2]
  by_cases c : a = [] ∧ b = []
  · rw [if_pos c, if_pos ⟨(nil h1).mp c.1, (nil h2).mp c.2⟩]
  · rw [if_neg c, if_neg fun z => c ⟨(nil h1).mpr z.1, (nil h2).mpr z.2⟩]
theorem PutI.text {B0 tab B : Bk} {nums : List Nat} (p : PutI B0 tab tab.length nums B) (low : ∀ (i : Nat) (r : Row), tab[i]? = some r → ∀ m ∈ r.1 ++ r.2, m < i) : ∀ i, i < tab.length → tx B (nm nums i) = tt tab i := by
  intro i
  induction i using Nat.strongRecOn with
  | ind i ih =>
    intro hi
    have hr := List.getElem?_eq_getElem hi
    generalize tab[i] = r at hr
    rw [tx_at p.ok (p.at' i r hi hr), tt_at low hr]
    have li := low i r hr
    have one : ∀ l : List Nat, (∀ m ∈ l, m < i) → ∀ k, k ∈ (nrm (l.map (nm nums))).map (tx B) ↔ k ∈ l.map (tt tab) := fun l hl k => by
      constructor
      · intro hk
        obtain ⟨x, hx, rfl⟩ := List.mem_map.mp hk
        obtain ⟨m, hm, rfl⟩ := List.mem_map.mp (mem_nrm.mp hx)
        have := hl m hm
        rw [ih m this (by omega)]
        exact List.mem_map_of_mem hm
      · intro hk
        obtain ⟨m, hm, rfl⟩ := List.mem_map.mp hk
        have := hl m hm
        rw [← ih m this (by omega)]
        exact List.mem_map_of_mem (mem_nrm.mpr (List.mem_map_of_mem hm))
    exact txF_congr (one r.1 fun m hm => li m (List.mem_append_left _ hm)) (one r.2 fun m hm => li m (List.mem_append_right _ hm))
/-- two names for a pair -/
theorem w_gTup2 {K : PySem.W.Frag} {H : Hp} {σ : L2.St} {i j : Nat} {p : Addr} {x y : V} {Q : L2.St → Hp → Prop} (h : SqT K H p [x, y]) (q : Q ((σ.set i (some x)).set j (some y)) H) : gTup K 2 (gCons (gName i) (gCons (gName j) gNil)) (.ref p) σ H Q :=
  ⟨p, _, rfl, h, rfl, x, [y], rfl, y, [], rfl, rfl, q⟩
/-- a joint: what holds between two statements -/
theorem w_cut {ta tb : TS} {nx bk ct : L2.St → Hp → Prop} {rt : VK} {σ : L2.St} {H : Hp} (R : L2.St → Hp → Prop) (h2 : ∀ σ' H', R σ' H' → tb ⟨nx, rt, bk, ct⟩ σ' H') (h1 : ∀ nx' : L2.St → Hp → Prop, (∀ σ' H', R σ' H' → nx' σ' H') → ta ⟨nx', rt, bk, ct⟩ σ H) : tSeq ta tb ⟨nx, rt, bk, ct⟩ σ H := h1 _ h2
/-! ### how long a text is -/
def wS (l : List Str) : Nat := (l.map fun x => x.length + 1).sum
theorem wS_cons (x : Str) (l : List Str) : wS (x :: l) = x.length + 1 + wS l := by unfold wS; rw [List.map_cons, List.sum_cons]
theorem wS_srt : ∀ l : List Str, wS (srtS l) ≤ wS l
  | [] => Nat.le_refl _
  | x :: l => by
    have h : ∀ m : List Str, wS (insS x m) ≤ x.length + 1 + wS m := by
      intro m
      induction m with
      | nil => exact Nat.le_refl _
      | cons y m ih =>
        unfold insS
        split
        · rw [wS_cons]; exact Nat.le_refl _
        · split
          · omega
          · rw [wS_cons, wS_cons]; omega
    have h2 := h (srtS l)
    have h3 := wS_srt l
    show wS (insS x (srtS l)) ≤ _
    rw [wS_cons]; omega
theorem wS_le {c : Nat} : ∀ {l : List Str}, (∀ x ∈ l, x.length ≤ c) → wS l ≤ l.length * (c + 1)
  | [], _ => by simp [wS]
  | x :: l, h => by
    have h1 := wS_le (l := l) fun y hy => h y (List.mem_cons_of_mem _ hy)
    have h2 := h x (by simp)
    rw [wS_cons, List.length_cons, Nat.add_mul]
    omega
theorem joinS_len : ∀ l : List Str, (Txt.join "," l).length ≤ wS l := fun l => by
  have h := join_len l
  have e : ∀ l : List Str, wS l = (l.map (·.length)).sum + l.length := by
    intro l
    induction l with
    | nil => rfl
    | cons x l ih => rw [wS_cons, ih, List.map_cons, List.sum_cons, List.length_cons]; omega
  rw [e]; exact h
theorem txF_len (a b : List Str) : (txF a b).length ≤ 3 + wS a + wS b := by
  unfold txF
  have o0 : ("0" : Str).length = 1 := by decide +kernel
  have o2 : ("{" : Str).length = 1 := by decide +kernel
  have o3 : ("|" : Str).length = 1 := by decide +kernel
  have o4 : ("}" : Str).length = 1 := by decide +kernel
  split
  · rw [o0]; omega
  · rw [len_app, len_app, len_app, len_app, o2, o3, o4]
    have h1 := joinS_len (srtS a)
    have h2 := joinS_len (srtS b)
    have h3 := wS_srt a
    have h4 := wS_srt b
    omega
def Fb : Nat → Nat
  | 0 => 1
  | e + 1 => 3 + 6 * (Fb e + 1)
theorem Fb_pos : ∀ e, 1 ≤ Fb e
  | 0 => Nat.le_refl _
  | e + 1 => by show 1 ≤ 3 + 6 * (Fb e + 1); omega
theorem Tb.text {d : Nat} {tab : Bk} (t : Tb d 3 tab) : ∀ (e g : Nat), g < tab.length → dp tab g ≤ e → (tt tab g).length ≤ Fb e := by
  intro e
  induction e with
  | zero =>
    intro g hg hd
    have hr := List.getElem?_eq_getElem hg
    generalize tab[g] = r at hr
    rw [tt_at t.low hr]
    have no : ∀ m, m ∉ r.1 ++ r.2 := fun m hm => by
      have := dp_ltL t.low hr hm
      omega
    have e1 : r.1 = [] := List.eq_nil_iff_forall_not_mem.mpr fun m hm => no m (List.mem_append_left _ hm)
    have e2 : r.2 = [] := List.eq_nil_iff_forall_not_mem.mpr fun m hm => no m (List.mem_append_right _ hm)
    rw [e1, e2]
    show (txF [] []).length ≤ 1
    rw [txF_nil]; decide +kernel
  | succ e ih =>
    intro g hg hd
    have hr := List.getElem?_eq_getElem hg
    generalize tab[g] = r at hr
    rw [tt_at t.low hr]
    have hl := txF_len (r.1.map (tt tab)) (r.2.map (tt tab))
    have each : ∀ m ∈ r.1 ++ r.2, (tt tab m).length ≤ Fb e := fun m hm => by
      have h1 := dp_ltL t.low hr hm
      have h2 := t.low g r hr m hm
      exact ih m (by omega) (by omega)
    have s := t.side r (List.mem_of_getElem? hr)
    have w1 := wS_le (c := Fb e) (l := r.1.map (tt tab)) fun x hx => by
      obtain ⟨m, hm, rfl⟩ := List.mem_map.mp hx
      exact each m (List.mem_append_left _ hm)
    have w2 := wS_le (c := Fb e) (l := r.2.map (tt tab)) fun x hx => by
      obtain ⟨m, hm, rfl⟩ := List.mem_map.mp hx
      exact each m (List.mem_append_right _ hm)
    rw [List.length_map] at w1 w2
    have m1 := Nat.mul_le_mul_right (Fb e + 1) s.1
    have m2 := Nat.mul_le_mul_right (Fb e + 1) s.2
    show _ ≤ 3 + 6 * (Fb e + 1)
    omega
theorem tt_snoc {B : Bk} (r : Row) {g : Nat} (h : g < B.length) : tt (B ++ [r]) g = tt B g := val_snoc txF _ r h
theorem tt_last (B : Bk) (r : Row) : tt (B ++ [r]) B.length = txF (r.1.map (tt B)) (r.2.map (tt B)) := val_last txF _ B r
theorem tt_pre {B B' : Bk} (h : B <+: B') {g : Nat} (hg : g < B.length) : tt B' g = tt B g := val_pre txF _ h hg
theorem dp_pre {B B' : Bk} (h : B <+: B') {g : Nat} (hg : g < B.length) : dp B' g = dp B g := val_pre dpF 0 h hg
/-- the rows laid on -/
structure MoreI (tab : Bk) (i : Nat) (tab' : Bk) : Prop where
  low : ∀ (j : Nat) (r : Row), tab'[j]? = some r → ∀ m ∈ r.1 ++ r.2, m < j
  side : ∀ r ∈ tab', r.1.length ≤ 8 ∧ r.2.length ≤ 8
  len : tab'.length = tab.length + 1 + i
  pre : tab <+: tab'
  dep : ∀ j, j < tab'.length → dp tab' j ≤ 3 + i
  text : ∀ j, j < tab'.length → (tt tab' j).length ≤ 1700 + 110 * i
theorem snoc_cases {α : Type} {l : List α} {x : α} {P : Nat → Prop} (h1 : ∀ j, j < l.length → P j) (h2 : P l.length) : ∀ j, j < (l ++ [x]).length → P j := by
  intro j hj
  rw [List.length_append, List.length_singleton] at hj
  by_cases c : j < l.length
  · exact h1 j c
  · rw [show j = l.length by omega]; exact h2
theorem MoreI.zero {tab : Bk} (t : Tb 3 3 tab) {L1 L2 : List Nat} (l1 : L1.length ≤ 8) (l2 : L2.length ≤ 8) (h : ∀ m ∈ L1 ++ L2, m < tab.length ∧ dp tab m < 3) : MoreI tab 0 (tab ++ [(L1, L2)]) := by
  have f2 : Fb 2 = 99 := rfl
  have f3 : Fb 3 = 603 := rfl
  refine ⟨low_snoc t.low fun m hm => (h m hm).1, fun r hr => ?_, by rw [List.length_append]; rfl, List.prefix_append _ _, snoc_cases (fun j hj => ?_) ?_, snoc_cases (fun j hj => ?_) ?_⟩
  · rcases List.mem_append.mp hr with q | q
    · have := t.side r q; omega
    · rw [List.mem_singleton.mp q]; exact ⟨l1, l2⟩
  · rw [dp_snoc _ hj]; exact t.dep j hj
  · rw [dp_last]; exact foldr_max_bd fun x hx => by
      obtain ⟨m, hm, rfl⟩ := List.mem_map.mp hx
      exact (h m hm).2
  · rw [tt_snoc _ hj]
    have := t.text 3 j hj (t.dep j hj)
    omega
  · rw [tt_last]
    have hl := txF_len (L1.map (tt tab)) (L2.map (tt tab))
    have w1 := wS_le (c := 99) (l := L1.map (tt tab)) fun x hx => by
      obtain ⟨m, hm, rfl⟩ := List.mem_map.mp hx
      have := h m (List.mem_append_left _ hm)
      exact t.text 2 m this.1 (by omega)
    have w2 := wS_le (c := 99) (l := L2.map (tt tab)) fun x hx => by
      obtain ⟨m, hm, rfl⟩ := List.mem_map.mp hx
      have := h m (List.mem_append_right _ hm)
      exact t.text 2 m this.1 (by omega)
    rw [List.length_map] at w1 w2
    show (txF (L1.map (tt tab)) (L2.map (tt tab))).length ≤ _
    omega
/-- one more: the last game, perhaps beside a small one -/
inductive Ch (T : Nat) (lw : List Nat) : List Nat → List Nat → Prop
  | one : Ch T lw [T] []
  | two {x : Nat} (h : x ∈ lw) : Ch T lw [T, x] []
  | side {x : Nat} (h : x ∈ lw) : Ch T lw [T] [x]
theorem MoreI.step {tab tab' : Bk} {i : Nat} (p : MoreI tab i tab') (t : Tb 3 3 tab) {lw : List Nat} (hl : ∀ m ∈ lw, m < tab.length ∧ dp tab m < 3) {A C : List Nat} (c : Ch (tab'.length - 1) lw A C) {r : Row} (hr : r = (A, C) ∨ r = (C, A)) : MoreI tab (i + 1) (tab' ++ [r]) := by
  have f2 : Fb 2 = 99 := rfl
  have hp := pre_len p.pre
  have hlen := p.len
  have T0 : tab'.length - 1 < tab'.length := by omega
  have mem : ∀ m ∈ r.1 ++ r.2, m = tab'.length - 1 ∨ m ∈ lw := fun m hm => by
    rcases hr with rfl | rfl <;> cases c <;> simp at hm ⊢
    · exact .inl hm
    · rcases hm with h | h
      · exact .inl h
      · rw [h]; rename_i hx; exact .inr hx
    · rcases hm with h | h
      · exact .inl h
      · rw [h]; rename_i hx; exact .inr hx
    · exact .inl hm
    · rcases hm with h | h
      · exact .inl h
      · rw [h]; rename_i hx; exact .inr hx
    · rcases hm with h | h
      · rw [h]; rename_i hx; exact .inr hx
      · exact .inl h
  have lt : ∀ m ∈ r.1 ++ r.2, m < tab'.length := fun m hm => by
    rcases mem m hm with h | h
    · omega
    · have := (hl m h).1; omega
  have bT := p.text _ T0
  have bX : ∀ x ∈ lw, (tt tab' x).length ≤ 99 := fun x hx => by
    have h := hl x hx
    rw [tt_pre p.pre h.1]
    exact t.text 2 x h.1 (by omega)
  refine ⟨low_snoc p.low lt, fun q hq => ?_, by rw [List.length_append, p.len]; rfl, p.pre.trans (List.prefix_append _ _), snoc_cases (fun j hj => ?_) ?_, snoc_cases (fun j hj => ?_) ?_⟩
  · rcases List.mem_append.mp hq with h | h
    · exact p.side q h
    · rw [List.mem_singleton.mp h]
      rcases hr with rfl | rfl <;> cases c <;> simp
  · rw [dp_snoc _ hj]; have := p.dep j hj; omega
  · rw [dp_last]; exact foldr_max_bd fun x hx => by
      obtain ⟨m, hm, rfl⟩ := List.mem_map.mp hx
      have := p.dep m (lt m hm)
      omega
  · rw [tt_snoc _ hj]; have := p.text j hj; omega
  · rw [tt_last]
    have hx := txF_len (r.1.map (tt tab')) (r.2.map (tt tab'))
    have : wS (r.1.map (tt tab')) + wS (r.2.map (tt tab')) ≤ (tt tab' (tab'.length - 1)).length + 1 + 100 := by
      have n0 : wS [] = 0 := rfl
      rcases hr with rfl | rfl <;> cases c <;> simp only [List.map_cons, List.map_nil, wS_cons, n0]
      · omega
      · rename_i h; have := bX _ h; omega
      · rename_i h; have := bX _ h; omega
      · omega
      · rename_i h; have := bX _ h; omega
      · rename_i h; have := bX _ h; omega
    omega
/-! ### laid in order -/
def cnt (x : Str) (l : List Str) : Nat := (l.filter fun y => decide (slt y x)).length
theorem cnt_snoc (x y : Str) (l : List Str) : cnt x (l ++ [y]) = cnt x l + (if slt y x then 1 else 0) := by
  unfold cnt
  rw [List.filter_append, List.length_append]
  by_cases c : slt y x
  · rw [if_pos c]; simp [c]
  · rw [if_neg c]; simp [c]
theorem cnt_le (x : Str) (l : List Str) : cnt x l ≤ l.length := List.length_filter_le _ _
theorem ins_at {x : Str} : ∀ {F : List Str}, F.Pairwise slt → x ∉ F → F.take (cnt x F) ++ [x] ++ F.drop (cnt x F) = insS x F
  | [], _, _ => rfl
  | y :: F, pw, nx => by
    rw [List.pairwise_cons] at pw
    have ne : x ≠ y := fun e => nx (by rw [e]; simp)
    by_cases c : slt y x
    · have e : cnt x (y :: F) = cnt x F + 1 := by
        unfold cnt
        rw [List.filter_cons_of_pos (by simpa using c)]; rfl
      have n1 : ¬ slt x y := fun z => slt_irr _ (slt_tr c z)
      rw [e]
      show y :: (F.take (cnt x F) ++ [x] ++ F.drop (cnt x F)) = (if slt x y then x :: y :: F else if x = y then y :: F else y :: insS x F)
      rw [if_neg n1, if_neg ne, ins_at pw.2 fun z => nx (List.mem_cons_of_mem _ z)]
    · have n1 : slt x y := by
        by_cases d : slt x y
        · exact d
        · exact absurd (slt_tot d c) ne
      have e : cnt x (y :: F) = 0 := by
        unfold cnt
        rw [List.filter_cons_of_neg (by simpa using c)]
        refine List.length_eq_zero_iff.mpr (List.filter_eq_nil_iff.mpr fun z hz => ?_)
        have h := slt_tr n1 (pw.1 z hz)
        simp only [decide_eq_true_eq]
        exact fun q => slt_irr _ (slt_tr h q)
      rw [e]
      show x :: y :: F = (if slt x y then x :: y :: F else if x = y then y :: F else y :: insS x F)
      rw [if_pos n1]
theorem inV_s {x : Str} {F : List Str} : inV (.str x) (sV F) = decide (x ∈ F) := by
  induction F with
  | nil => rfl
  | cons y F ih =>
    show ((y == x) || inV (.str x) (sV F)) = _
    rw [ih]
    by_cases c : y = x
    · subst c; simp
    · have c3 : (x ∈ y :: F) ↔ x ∈ F := by
        rw [List.mem_cons]
        exact ⟨fun h => by rcases h with h | h; exact absurd h.symm c; exact h, fun h => .inr h⟩
      rw [beq_eq_false_iff_ne.mpr c, Bool.false_or, decide_eq_decide.mpr c3]
theorem flat_s (F : List Str) : (sV F).all flatV = true := by
  unfold sV
  rw [List.all_map]
  exact List.all_eq_true.mpr fun _ _ => rfl
end G

namespace G
open PySem L2
/-! ### caught errors -/
theorem pss_when {X : Cx} {body : List Stmt} {t : TS} {c : Prop} (h : c → PSs X body t) : PSs X body (fun D σ H => c ∧ t D σ H) :=
  ⟨fun pins s σ H D I q => (h q.1).run pins s σ H D I q.2⟩
structure NoGT (K : PySem.W.Frag) (mg : Str → Option Value) (CE : Addr) : Prop where
  ec : ExcC K CE
  exm : PySem.W.exmOne K (.ref CE) (.ref CE) = some true
  kV : PySem.W.kitOne K (.ref CE) (.type "ValueError") = some true
theorem w_isE {K : PySem.W.Frag} {D a : Addr} {c : V} {cv : Value} {b : Bool} {H : Hp} {Q : VK} (hc : ∀ u, RelV c u → u = cv) (k : PySem.W.kitOne K (.ref D) cv = some b) (q : Q (.bl b) H) : rIsE K D a [.ref a, c] H Q := ⟨c, cv, b, rfl, hc, k, q⟩
theorem relRef {a : Addr} : ∀ u, RelV (.ref a) u → u = .ref a := fun _ h => h
theorem relTy {x : String} : ∀ u, RelV (.ty x) u → u = .type x := fun _ h => h
theorem kit_own {K : PySem.W.Frag} {D C : Addr} {b : Bool} (i : PySem.W.isClsIn K C = true) (t : PySem.W.typeIn K (.ref C) = some (.type "type")) (s : PySem.W.subIn K (.ref D) (.ref C) = some b) (r : PySem.W.subIn K (.ref D) (.ref D) = some true) : PySem.W.kitOne K (.ref D) (.ref C) = some b := by
  unfold PySem.W.kitOne
  by_cases c : D = C
  · subst c
    rw [r] at s
    rw [if_pos (by simp)]
    exact s
  · have e : (Value.ref D == Value.ref C) = false := by
      refine Bool.eq_false_iff.mpr fun z => c ?_
      exact Value.ref.inj (beq_iff_eq.mp z)
    rw [e, if_neg Bool.false_ne_true]
    have e2 : ((PySem.W.clsIn K C).isSome && PySem.W.typeIn K (.ref C) == some (.type "type")) = true := by
      have i' : (PySem.W.clsIn K C).isSome = true := i
      rw [i', t] <;> rfl
    show (if ((PySem.W.clsIn K C).isSome && PySem.W.typeIn K (.ref C) == some (.type "type")) = true then PySem.W.subIn K (.ref D) (.ref C) else none) = some b
    rw [if_pos e2]
    exact s
theorem kit_ve {K : PySem.W.Frag} {D : Addr} (s : PySem.W.subIn K (.ref D) (.type "ValueError") = some true) : PySem.W.kitOne K (.ref D) (.type "ValueError") = some true := by
  have e : (Value.ref D == Value.type "ValueError") = false := rfl
  have m : PySem.W.kitMeta "ValueError" = true := by decide +kernel
  unfold PySem.W.kitOne
  rw [e, if_neg Bool.false_ne_true]
  show (if PySem.W.kitMeta "ValueError" = true then PySem.W.subIn K (.ref D) (.type "ValueError") else none) = some true
  rw [if_pos m]
  exact s
theorem exm_own {K : PySem.W.Frag} {D C : Addr} {b : Bool} (h1 : PySem.W.subIn K (.ref C) (.type "BaseException") = some true) (i : PySem.W.isClsIn K C = true) (t : PySem.W.typeIn K (.ref C) = some (.type "type")) (s : PySem.W.subIn K (.ref D) (.ref C) = some b) : PySem.W.exmOne K (.ref D) (.ref C) = some b := by
  have e1 : (PySem.W.subIn K (.ref C) (.type "BaseException") == some true) = true := by rw [h1] <;> rfl
  have e2 : ((PySem.W.clsIn K C).isSome && PySem.W.typeIn K (.ref C) == some (.type "type")) = true := by
    have i' : (PySem.W.clsIn K C).isSome = true := i
    rw [i', t] <;> rfl
  show (if (PySem.W.subIn K (.ref C) (.type "BaseException") == some true) = true then (if ((PySem.W.clsIn K C).isSome && PySem.W.typeIn K (.ref C) == some (.type "type")) = true then PySem.W.subIn K (.ref D) (.ref C) else none) else none) = some b
  rw [if_pos e1, if_pos e2]
  exact s
end G

namespace G
open PySem L2 TL
/-! ### texts are read -/
inductive Tr where
  | mk (l r : List Tr)
def sg (T : List Nat) (i j : Nat) : List Nat := (T.drop i).take (j - i)
theorem tl_cut {t : Str} {i j : Nat} (h : i ≤ j) : TL.tl (cutS t (some (i : Int)) (some (j : Int))) = sg (TL.tl t) i j := by
  unfold cutS sg
  rw [HT.sIx_nat, HT.sIx_nat, len_tl]
  show ((TL.tl t).drop _).take _ = _
  by_cases c : i ≤ (TL.tl t).length
  · by_cases d : j ≤ (TL.tl t).length
    · rw [Nat.min_eq_left c, Nat.min_eq_left d]
    · rw [Nat.min_eq_left c, Nat.min_eq_right (by omega), List.take_of_length_le (by rw [List.length_drop]; exact Nat.le_refl _), List.take_of_length_le (by rw [List.length_drop]; omega)]
  · have e : (TL.tl t).length - min i (TL.tl t).length = 0 := by omega
    rw [Nat.min_eq_right (show (TL.tl t).length ≤ j by omega), e, List.take_zero, List.drop_of_length_le (by omega), List.take_nil]
theorem sg1 (T : List Nat) (i : Nat) : sg T i (i + 1) = match T[i]? with | some c => [c] | none => [] := by
  unfold sg
  rw [Nat.add_sub_cancel_left]
  cases h : T[i]? with
  | none => rw [List.drop_of_length_le (List.getElem?_eq_none_iff.mp h)]; rfl
  | some c =>
    have hi := (List.getElem?_eq_some_iff.mp h).1
    rw [List.drop_eq_getElem_cons hi, (List.getElem?_eq_some_iff.mp h).2]; rfl
theorem sg1_lt {T : List Nat} {i c : Nat} (h : sg T i (i + 1) = [c]) : i < T.length := by
  rw [sg1] at h
  cases e : T[i]? with
  | none => rw [e] at h; cases h
  | some d => exact (List.getElem?_eq_some_iff.mp e).1
def sloop (g : Nat → Option (Tr × Nat)) (T : List Nat) (e : Nat) : Nat → List Tr → List Nat → Nat → Option (List Tr × Nat)
  | 0, _, _, _ => none
  | f + 1, ms, last, a =>
    match g a with
    | none => none
    | some (m, p) =>
      if ms ≠ [] ∧ ¬ (last < sg T a p) then none
      else if sg T p (p + 1) = [e] then some (ms ++ [m], p + 1)
      else if sg T p (p + 1) = [44] then sloop g T e f (ms ++ [m]) (sg T a p) (p + 1)
      else none
def sread (g : Nat → Option (Tr × Nat)) (T : List Nat) (e a : Nat) : Option (List Tr × Nat) :=
  if sg T a (a + 1) = [e] then some ([], a + 1) else sloop g T e (T.length + 1) [] [] a
def gread (T : List Nat) : Nat → Nat → Option (Tr × Nat)
  | 0, a => if sg T a (a + 1) = [48] then some (.mk [] [], a + 1) else none
  | r + 1, a =>
    if sg T a (a + 1) = [48] then some (.mk [] [], a + 1)
    else if sg T a (a + 1) = [123] then
      match sread (gread T r) T 124 (a + 1) with
      | none => none
      | some (ls, p) =>
        match sread (gread T r) T 125 p with
        | none => none
        | some (rs, q) => if ls = [] ∧ rs = [] then none else some (.mk ls rs, q)
    else none
/-- what is read lies ahead, and within -/
def Fwd (T : List Nat) (g : Nat → Option (Tr × Nat)) : Prop := ∀ a m p, g a = some (m, p) → a < p ∧ p ≤ T.length
theorem sloop_fwd {g : Nat → Option (Tr × Nat)} {T : List Nat} (h : Fwd T g) {e : Nat} : ∀ (f : Nat) (ms : List Tr) (last : List Nat) (a : Nat) (l : List Tr) (p : Nat), sloop g T e f ms last a = some (l, p) → a < p ∧ p ≤ T.length
  | 0, ms, last, a, l, p, q => by cases q
  | f + 1, ms, last, a, l, p, q => by
    unfold sloop at q
    cases e1 : g a with
    | none => rw [e1] at q; cases q
    | some mp =>
      obtain ⟨m, p1⟩ := mp
      rw [e1] at q
      have h1 := h a m p1 e1
      dsimp only at q
      split at q
      · cases q
      · split at q
        · rename_i c
          have := sg1_lt c
          cases q
          omega
        · split at q
          · have := sloop_fwd h f _ _ _ l p q
            omega
          · cases q
theorem sread_fwd {g : Nat → Option (Tr × Nat)} {T : List Nat} (h : Fwd T g) {e a : Nat} {l : List Tr} {p : Nat} (q : sread g T e a = some (l, p)) : a < p ∧ p ≤ T.length := by
  unfold sread at q
  split at q
  · rename_i c
    have := sg1_lt c
    cases q
    omega
  · exact sloop_fwd h _ _ _ _ _ _ q
theorem gread_fwd (T : List Nat) : ∀ r, Fwd T (gread T r)
  | 0 => fun a m p q => by
    unfold gread at q
    split at q
    · rename_i c
      have := sg1_lt c
      cases q
      omega
    · cases q
  | r + 1 => fun a m p q => by
    have ih := gread_fwd T r
    unfold gread at q
    split at q
    · rename_i c
      have := sg1_lt c
      cases q
      omega
    · split at q
      · cases e1 : sread (gread T r) T 124 (a + 1) with
        | none => rw [e1] at q; cases q
        | some lp =>
          obtain ⟨ls, p1⟩ := lp
          rw [e1] at q
          dsimp only at q
          have h1 := sread_fwd ih e1
          cases e2 : sread (gread T r) T 125 p1 with
          | none => rw [e2] at q; cases q
          | some lp =>
            obtain ⟨rs, p2⟩ := lp
            rw [e2] at q
            dsimp only at q
            have h2 := sread_fwd ih e2
            split at q
            · cases q
            · cases q; omega
      · cases q
/-! ### trees on a heap -/
mutual
inductive TrAt (H : Hp) : V → Tr → Prop where
  | mk {a l r : Addr} {xs ys : List V} {ls rs : List Tr} (h : H a = some (.tup [.ref l, .ref r])) (hl : H l = some (.tup xs)) (hr : H r = some (.tup ys)) (tl : TrsAt H xs ls) (tr : TrsAt H ys rs) : TrAt H (.ref a) (.mk ls rs)
inductive TrsAt (H : Hp) : List V → List Tr → Prop where
  | nil : TrsAt H [] []
  | cons {v : V} {vs : List V} {t : Tr} {ts : List Tr} (h : TrAt H v t) (r : TrsAt H vs ts) : TrsAt H (v :: vs) (t :: ts)
end
mutual
theorem TrAt.fr {S : List Addr} {H H' : Hp} (f : Fr S H H') : ∀ {v : V} {t : Tr}, TrAt H v t → TrAt H' v t
  | _, _, .mk h hl hr a b => .mk (f.tup h) (f.tup hl) (f.tup hr) (TrsAt.fr f a) (TrsAt.fr f b)
theorem TrsAt.fr {S : List Addr} {H H' : Hp} (f : Fr S H H') : ∀ {v : List V} {t : List Tr}, TrsAt H v t → TrsAt H' v t
  | _, _, .nil => .nil
  | _, _, .cons h r => .cons (TrAt.fr f h) (TrsAt.fr f r)
end
theorem TrsAt.len {H : Hp} : ∀ {vs : List V} {ts : List Tr}, TrsAt H vs ts → vs.length = ts.length
  | _, _, .nil => rfl
  | _, _, .cons _ r => by rw [List.length_cons, List.length_cons, TrsAt.len r]
theorem TrsAt.app {H : Hp} : ∀ {vs ws : List V} {ts us : List Tr}, TrsAt H vs ts → TrsAt H ws us → TrsAt H (vs ++ ws) (ts ++ us)
  | _, _, _, _, .nil, h => h
  | _, _, _, _, .cons a r, h => .cons a (TrsAt.app r h)
theorem TrsAt.get {H : Hp} : ∀ {vs : List V} {ts : List Tr} {i : Nat} {v : V}, TrsAt H vs ts → vs[i]? = some v → ∃ t, ts[i]? = some t ∧ TrAt H v t
  | _, _, i, v, .nil, h => by simp at h
  | _, _, 0, v, .cons a r, h => ⟨_, rfl, by cases h; exact a⟩
  | _, _, i + 1, v, .cons a r, h => by
    obtain ⟨t, h1, h2⟩ := TrsAt.get r (i := i) (by simpa using h)
    exact ⟨t, by simpa using h1, h2⟩
mutual
def Tr.data : Tr → PyData
  | .mk l r => .tuple [.tuple (Tr.datas l), .tuple (Tr.datas r)]
def Tr.datas : List Tr → List PyData
  | [] => []
  | t :: ts => Tr.data t :: Tr.datas ts
end
mutual
def Tr.dep : Tr → Nat
  | .mk l r => max (Tr.deps l) (Tr.deps r)
def Tr.deps : List Tr → Nat
  | [] => 0
  | t :: ts => max (Tr.dep t + 1) (Tr.deps ts)
end
mutual
theorem TrAt.dp {K : PySem.W.Frag} {H : Hp} : ∀ {v : V} {t : Tr}, TrAt H v t → Dp K H v t.data
  | _, _, .mk h hl hr a b => .tup (SqT.of h) (.cons (.tup (SqT.of hl) (TrsAt.dp a)) (.cons (.tup (SqT.of hr) (TrsAt.dp b)) .nil))
theorem TrsAt.dp {K : PySem.W.Frag} {H : Hp} : ∀ {v : List V} {t : List Tr}, TrsAt H v t → DpAll K H v (Tr.datas t)
  | _, _, .nil => .nil
  | _, _, .cons h r => .cons (TrAt.dp h) (TrsAt.dp r)
end
mutual
theorem Tr.can : ∀ t : Tr, PyData.canLay0 t.data = true
  | .mk l r => by
    show (PyData.canLayAll0 (Tr.datas l) && (PyData.canLayAll0 (Tr.datas r) && true)) = true
    rw [Tr.cans l, Tr.cans r]; rfl
theorem Tr.cans : ∀ t : List Tr, PyData.canLayAll0 (Tr.datas t) = true
  | [] => rfl
  | t :: ts => by
    show (PyData.canLay0 t.data && PyData.canLayAll0 (Tr.datas ts)) = true
    rw [Tr.can t, Tr.cans ts]; rfl
end
mutual
theorem Tr.depD : ∀ t : Tr, PyData.depth t.data ≤ 2 * t.dep + 2
  | .mk l r => by
    have h1 := Tr.depDs l
    have h2 := Tr.depDs r
    show max (PyData.depthAll (Tr.datas l) + 1) (max (PyData.depthAll (Tr.datas r) + 1) 0) + 1 ≤ 2 * max (Tr.deps l) (Tr.deps r) + 2
    omega
theorem Tr.depDs : ∀ t : List Tr, PyData.depthAll (Tr.datas t) ≤ 2 * Tr.deps t
  | [] => Nat.le_refl _
  | t :: ts => by
    have h1 := Tr.depD t
    have h2 := Tr.depDs ts
    show max (PyData.depth t.data) (PyData.depthAll (Tr.datas ts)) ≤ 2 * max (t.dep + 1) (Tr.deps ts)
    omega
end
theorem Tr.datas_nil {l : List Tr} : (Tr.datas l = []) ↔ l = [] := by
  cases l with
  | nil => exact ⟨fun _ => rfl, fun _ => rfl⟩
  | cons a l =>
    constructor
    · intro z
      have z : Tr.data a :: Tr.datas l = [] := z
      cases z
    · intro z; cases z
theorem eqvAll_nil (l : List PyData) : PyData.eqvAll l [] = decide (l = []) := by cases l <;> rfl
theorem Tr.eqv0 (t : Tr) : PyData.eqv t.data (.tuple [.tuple [], .tuple []]) = true ↔ t = .mk [] [] := by
  obtain ⟨l, r⟩ := t
  show (PyData.eqvAll (Tr.datas l) [] && (PyData.eqvAll (Tr.datas r) [] && true)) = true ↔ _
  rw [eqvAll_nil, eqvAll_nil, Bool.and_true, Bool.and_eq_true, decide_eq_true_eq, decide_eq_true_eq, Tr.datas_nil, Tr.datas_nil]
  constructor
  · rintro ⟨a, b⟩; rw [a, b]
  · intro h; cases h; exact ⟨rfl, rfl⟩
theorem Tr.deps_le {n : Nat} : ∀ {l : List Tr}, Tr.deps l ≤ n + 1 ↔ ∀ t ∈ l, t.dep ≤ n
  | [] => ⟨fun _ _ h => by simp at h, fun _ => Nat.zero_le _⟩
  | t :: l => by
    have ih := Tr.deps_le (n := n) (l := l)
    show max (t.dep + 1) (Tr.deps l) ≤ n + 1 ↔ _
    rw [List.forall_mem_cons, ← ih]
    omega
theorem sloop_dep {g : Nat → Option (Tr × Nat)} {T : List Nat} {e n : Nat} (h : ∀ a m p, g a = some (m, p) → m.dep ≤ n) : ∀ (f : Nat) (ms : List Tr) (last : List Nat) (a : Nat) (l : List Tr) (p : Nat), (∀ t ∈ ms, t.dep ≤ n) → sloop g T e f ms last a = some (l, p) → ∀ t ∈ l, t.dep ≤ n
  | 0, ms, last, a, l, p, hm, q => by cases q
  | f + 1, ms, last, a, l, p, hm, q => by
    unfold sloop at q
    cases e1 : g a with
    | none => rw [e1] at q; cases q
    | some mp =>
      obtain ⟨m, p1⟩ := mp
      rw [e1] at q
      have h1 := h a m p1 e1
      have hm2 : ∀ t ∈ ms ++ [m], t.dep ≤ n := fun t ht => by
        rcases List.mem_append.mp ht with z | z
        · exact hm t z
        · rw [List.mem_singleton.mp z]; exact h1
      dsimp only at q
      split at q
      · cases q
      · split at q
        · cases q; exact hm2
        · split at q
          · exact sloop_dep h f _ _ _ l p hm2 q
          · cases q
theorem sread_dep {g : Nat → Option (Tr × Nat)} {T : List Nat} {e n a : Nat} (h : ∀ a m p, g a = some (m, p) → m.dep ≤ n) {l : List Tr} {p : Nat} (q : sread g T e a = some (l, p)) : ∀ t ∈ l, t.dep ≤ n := by
  unfold sread at q
  split at q
  · cases q; simp
  · exact sloop_dep h _ _ _ _ _ _ (by simp) q
theorem gread_dep (T : List Nat) : ∀ r a m p, gread T r a = some (m, p) → m.dep ≤ r
  | 0, a, m, p, q => by
    unfold gread at q
    split at q
    · cases q; exact Nat.le_refl _
    · cases q
  | r + 1, a, m, p, q => by
    have ih := gread_dep T r
    unfold gread at q
    split at q
    · cases q; exact Nat.zero_le _
    · split at q
      · cases e1 : sread (gread T r) T 124 (a + 1) with
        | none => rw [e1] at q; cases q
        | some lp =>
          obtain ⟨ls, p1⟩ := lp
          rw [e1] at q
          dsimp only at q
          have h1 := sread_dep ih e1
          cases e2 : sread (gread T r) T 125 p1 with
          | none => rw [e2] at q; cases q
          | some lp =>
            obtain ⟨rs, p2⟩ := lp
            rw [e2] at q
            dsimp only at q
            have h2 := sread_dep ih e2
            split at q
            · cases q
            · cases q
              show max (Tr.deps ls) (Tr.deps rs) ≤ r + 1
              have h3 := Tr.deps_le.mpr h1
              have h4 := Tr.deps_le.mpr h2
              omega
      · cases q
theorem shTs {l : List Tr} {n : Nat} (h : ∀ t ∈ l, t.dep ≤ n) (hn : n ≤ 28) : SeqAt.shaped (.list (Tr.datas l)) = true := by
  have h1 := Tr.deps_le.mpr h
  have h2 := Tr.depDs l
  unfold SeqAt.shaped
  show (PyData.canLayAll0 (Tr.datas l) && decide (PyData.depthAll (Tr.datas l) + 1 ≤ 64)) = true
  rw [Tr.cans, Bool.true_and]
  exact decide_eq_true (by omega)
theorem eqvTs (l : List Tr) : PyData.eqv (.list (Tr.datas l)) (.list []) = decide (l = []) := by
  show PyData.eqvAll (Tr.datas l) [] = _
  rw [eqvAll_nil, decide_eq_decide]
  exact Tr.datas_nil
section
variable {K : PySem.W.Frag} {H : Hp} {Q : VK}
theorem w_neNilT {a b : Addr} {xs : List V} {l : List Tr} {n : Nat} (ha : SqL K H a xs) (ht : TrsAt H xs l) (hd : ∀ t ∈ l, t.dep ≤ n) (hn : n ≤ 28) (hb : SqL K H b []) (q : Q (.bl (!decide (l = []))) H) : rNeD K (.ref a) (.ref b) H Q :=
  ⟨_, _, .lst ha ht.dp, .lst hb .nil, shTs hd hn, rfl, by rw [eqvTs]; exact q⟩
theorem w_eqNilT {a b : Addr} {xs : List V} {l : List Tr} {n : Nat} (ha : SqL K H a xs) (ht : TrsAt H xs l) (hd : ∀ t ∈ l, t.dep ≤ n) (hn : n ≤ 28) (hb : SqL K H b []) (q : Q (.bl (decide (l = []))) H) : rEqD K (.ref a) (.ref b) H Q :=
  ⟨_, _, .lst ha ht.dp, .lst hb .nil, shTs hd hn, rfl, by rw [eqvTs]; exact q⟩
end
section
variable {T : List Nat} {r a : Nat}
theorem gr_n1 (c : ¬ sg T a (a + 1) = [48]) (c1 : sg T a (a + 1) = [123]) (h : sread (gread T r) T 124 (a + 1) = none) : gread T (r + 1) a = none := by
  unfold gread
  rw [if_neg c, if_pos c1, h]
theorem gr_n2 (c : ¬ sg T a (a + 1) = [48]) (c1 : sg T a (a + 1) = [123]) {ls : List Tr} {p : Nat} (h : sread (gread T r) T 124 (a + 1) = some (ls, p)) (h2 : sread (gread T r) T 125 p = none) : gread T (r + 1) a = none := by
  unfold gread
  rw [if_neg c, if_pos c1, h]
  dsimp only
  rw [h2]
theorem gr_s (c : ¬ sg T a (a + 1) = [48]) (c1 : sg T a (a + 1) = [123]) {ls rs : List Tr} {p q : Nat} (h : sread (gread T r) T 124 (a + 1) = some (ls, p)) (h2 : sread (gread T r) T 125 p = some (rs, q)) : gread T (r + 1) a = if ls = [] ∧ rs = [] then none else some (.mk ls rs, q) := by
  unfold gread
  rw [if_neg c, if_pos c1, h]
  dsimp only
  rw [h2]
end
theorem sloop_len {g : Nat → Option (Tr × Nat)} {T : List Nat} (h : Fwd T g) {e : Nat} : ∀ (f : Nat) (ms : List Tr) (last : List Nat) (a : Nat) (l : List Tr) (p : Nat), ms.length ≤ a → sloop g T e f ms last a = some (l, p) → l.length ≤ p
  | 0, ms, last, a, l, p, _, q => by cases q
  | f + 1, ms, last, a, l, p, hm, q => by
    unfold sloop at q
    cases e1 : g a with
    | none => rw [e1] at q; cases q
    | some mp =>
      obtain ⟨m, p1⟩ := mp
      rw [e1] at q
      have h1 := h a m p1 e1
      have h2 : (ms ++ [m]).length ≤ p1 + 1 := by rw [List.length_append, List.length_singleton]; omega
      dsimp only at q
      split at q
      · cases q
      · split at q
        · cases q; exact h2
        · split at q
          · exact sloop_len h f _ _ _ l p h2 q
          · cases q
theorem sread_len {g : Nat → Option (Tr × Nat)} {T : List Nat} (h : Fwd T g) {e a : Nat} {l : List Tr} {p : Nat} (q : sread g T e a = some (l, p)) : l.length ≤ p := by
  unfold sread at q
  split at q
  · cases q; exact Nat.zero_le _
  · exact sloop_len h _ _ _ _ _ _ (Nat.zero_le _) q
theorem app_nil2 {α : Type} {l m : List α} : (l ++ m = []) ↔ (l = [] ∧ m = []) := List.append_eq_nil_iff
end G

namespace G
open PySem L2 TL
/-! ### trees are put -/
mutual
def putT : Bk → Tr → Bk × Nat
  | B, .mk l r => if l.isEmpty && r.isEmpty then (B, 0) else
    put (putTs (putTs B l).1 r).1 (nrm (putTs B l).2, nrm (putTs (putTs B l).1 r).2)
def putTs : Bk → List Tr → Bk × List Nat
  | B, [] => (B, [])
  | B, t :: ts => ((putTs (putT B t).1 ts).1, (putT B t).2 :: (putTs (putT B t).1 ts).2)
end
mutual
def trT : Tr → Str
  | .mk l r => txF (trTs l) (trTs r)
def trTs : List Tr → List Str
  | [] => []
  | t :: ts => trT t :: trTs ts
end
theorem trTs_map : ∀ l : List Tr, trTs l = l.map trT
  | [] => rfl
  | t :: l => by show trT t :: trTs l = _; rw [trTs_map l]; rfl
mutual
def Tr.sz : Tr → Nat
  | .mk l r => 1 + (Tr.szs l + Tr.szs r)
def Tr.szs : List Tr → Nat
  | [] => 0
  | t :: ts => Tr.sz t + Tr.szs ts
end
mutual
def Tr.wide : Tr → Prop
  | .mk l r => l.length ≤ 60 ∧ r.length ≤ 60 ∧ Tr.wides l ∧ Tr.wides r
def Tr.wides : List Tr → Prop
  | [] => True
  | t :: ts => Tr.wide t ∧ Tr.wides ts
end
theorem Tr.wides_mem : ∀ {l : List Tr}, Tr.wides l → ∀ t ∈ l, t.wide
  | [], _, t, h => by simp at h
  | a :: l, w, t, h => by
    rcases List.mem_cons.mp h with e | e
    · rw [e]; exact w.1
    · exact Tr.wides_mem w.2 t e
theorem Tr.dep_mem {n : Nat} {l : List Tr} (h : Tr.deps l ≤ n + 1) : ∀ t ∈ l, t.dep ≤ n := Tr.deps_le.mp h
structure PutOk (B B' : Bk) (t : Str) (n : Nat) (s : Nat) : Prop where
  ok : OkB B'
  pre : B <+: B'
  low : n < B'.length
  tx : tx B' n = t
  size : B'.length ≤ B.length + s
structure PutsOk (B B' : Bk) (ts : List Str) (ns : List Nat) (s : Nat) : Prop where
  ok : OkB B'
  pre : B <+: B'
  low : ∀ n ∈ ns, n < B'.length
  tx : ns.map (tx B') = ts
  size : B'.length ≤ B.length + s
theorem tx_pre' {B B' : Bk} (h : B <+: B') {g : Nat} (hg : g < B.length) : tx B' g = tx B g := val_pre txF _ h hg
theorem map_nrm_mem {f : Nat → Str} {l : List Nat} (k : Str) : k ∈ (nrm l).map f ↔ k ∈ l.map f := by
  constructor
  · intro h
    obtain ⟨m, hm, rfl⟩ := List.mem_map.mp h
    exact List.mem_map_of_mem (mem_nrm.mp hm)
  · intro h
    obtain ⟨m, hm, rfl⟩ := List.mem_map.mp h
    exact List.mem_map_of_mem (mem_nrm.mpr hm)
mutual
theorem putT_ok : ∀ (B : Bk) (t : Tr), OkB B → PutOk B (putT B t).1 (trT t) (putT B t).2 t.sz
  | B, .mk l r, ok => by
    have h1 := putTs_ok B l ok
    have h2 := putTs_ok (putTs B l).1 r h1.ok
    unfold putT
    by_cases c : (l.isEmpty && r.isEmpty) = true
    · rw [if_pos c]
      rw [Bool.and_eq_true, List.isEmpty_iff, List.isEmpty_iff] at c
      refine ⟨ok, List.prefix_refl _, ok.pos, ?_, Nat.le_add_right _ _⟩
      rw [c.1, c.2, tx_zero ok]
      exact txF_nil.symm
    · rw [if_neg c]
      generalize putTs B l = p1 at *
      obtain ⟨B1, ls⟩ := p1
      generalize putTs B1 r = p2 at *
      obtain ⟨B2, rs⟩ := p2
      dsimp only at *
      have low1 : ∀ n ∈ ls, n < B2.length := fun n hn => Nat.lt_of_lt_of_le (h1.low n hn) (pre_len h2.pre)
      have ft : Fits B2 (nrm ls, nrm rs) := ⟨⟨nrm_srt _, nrm_srt _⟩, fun m hm => by
        rcases List.mem_append.mp hm with q | q
        · exact low1 m (mem_nrm.mp q)
        · exact h2.low m (mem_nrm.mp q)⟩
      have ok3 := put_ok h2.ok ft
      refine ⟨ok3, (h1.pre.trans h2.pre).trans put_pre, put_low, ?_, ?_⟩
      · rw [tx_at ok3 put_get]
        show txF _ _ = txF (trTs l) (trTs r)
        refine txF_congr (fun k => ?_) fun k => ?_
        · rw [map_nrm_mem, ← h1.tx]
          have e : ls.map (tx (put B2 (nrm ls, nrm rs)).1) = ls.map (tx B1) := List.map_congr_left fun m hm => tx_pre' (h2.pre.trans put_pre) (h1.low m hm)
          rw [e]
        · rw [map_nrm_mem, ← h2.tx]
          have e : rs.map (tx (put B2 (nrm ls, nrm rs)).1) = rs.map (tx B2) := List.map_congr_left fun m hm => tx_pre' put_pre (h2.low m hm)
          rw [e]
      · have s1 := h1.size
        have s2 := h2.size
        have s3 := put_size (B := B2) (r := (nrm ls, nrm rs))
        show _ ≤ B.length + (1 + (Tr.szs l + Tr.szs r))
        omega
theorem putTs_ok : ∀ (B : Bk) (t : List Tr), OkB B → PutsOk B (putTs B t).1 (trTs t) (putTs B t).2 (Tr.szs t)
  | B, [], ok => ⟨ok, List.prefix_refl _, fun n hn => by simp [putTs] at hn, rfl, Nat.le_refl _⟩
  | B, t :: ts, ok => by
    have h1 := putT_ok B t ok
    have h2 := putTs_ok (putT B t).1 ts h1.ok
    unfold putTs
    generalize putT B t = p1 at *
    obtain ⟨B1, n⟩ := p1
    generalize putTs B1 ts = p2 at *
    obtain ⟨B2, ns⟩ := p2
    dsimp only at *
    refine ⟨h2.ok, h1.pre.trans h2.pre, fun m hm => ?_, ?_, ?_⟩
    · rcases List.mem_cons.mp hm with e | e
      · rw [e]; exact Nat.lt_of_lt_of_le h1.low (pre_len h2.pre)
      · exact h2.low m e
    · show tx B2 n :: ns.map (tx B2) = trT t :: trTs ts
      rw [h2.tx, tx_pre' h2.pre h1.low, h1.tx]
    · have s1 := h1.size
      have s2 := h2.size
      show _ ≤ B.length + (t.sz + Tr.szs ts)
      omega
end
theorem putTs_snoc : ∀ (B : Bk) (l : List Tr) (t : Tr), putTs B (l ++ [t]) = ((putT (putTs B l).1 t).1, (putTs B l).2 ++ [(putT (putTs B l).1 t).2])
  | B, [], t => by
    show putTs B [t] = _
    unfold putTs
    rfl
  | B, a :: l, t => by
    show ((putTs (putT B a).1 (l ++ [t])).1, (putT B a).2 :: (putTs (putT B a).1 (l ++ [t])).2) = _
    rw [putTs_snoc (putT B a).1 l t]
    rfl
/-- what the book has is found again -/
theorem txF_inj {a b a' b' : List Str} (ha : ∀ x ∈ a, ∃ c r, tl x = c :: r ∧ (c = 48 ∨ c = 123)) (ha' : ∀ x ∈ a', ∃ c r, tl x = c :: r ∧ (c = 48 ∨ c = 123)) (hb : ∀ x ∈ b, ∃ c r, tl x = c :: r ∧ (c = 48 ∨ c = 123)) (hb' : ∀ x ∈ b', ∃ c r, tl x = c :: r ∧ (c = 48 ∨ c = 123))
    (h1 : ∀ x ∈ a, ∀ y ∈ a', ∀ s t, tl x ++ s = tl y ++ t → tl x = tl y ∧ s = t) (h2 : ∀ x ∈ b, ∀ y ∈ b', ∀ s t, tl x ++ s = tl y ++ t → tl x = tl y ∧ s = t) (h : txF a b = txF a' b') : (∀ k, k ∈ a ↔ k ∈ a') ∧ ∀ k, k ∈ b ↔ k ∈ b' := by
  have h := congrArg tl h
  by_cases n1 : a = [] ∧ b = []
  · rw [n1.1, n1.2, txF_nil, c_0] at h
    by_cases n2 : a' = [] ∧ b' = []
    · rw [n1.1, n1.2, n2.1, n2.2]; exact ⟨fun _ => Iff.rfl, fun _ => Iff.rfl⟩
    · rw [txF_tl n2] at h
      exact absurd (List.cons.inj h).1 (by decide)
  · by_cases n2 : a' = [] ∧ b' = []
    · rw [n2.1, n2.2, txF_nil, c_0, txF_tl n1] at h
      exact absurd (List.cons.inj h).1 (by decide)
    · rw [txF_tl n1, txF_tl n2] at h
      have h := (List.cons.inj h).2
      have hd : ∀ {l : List Str}, (∀ x ∈ l, ∃ c r, tl x = c :: r ∧ (c = 48 ∨ c = 123)) → ∀ x ∈ (srtS l).map tl, ∃ d r, x = d :: r ∧ (d = 48 ∨ d = 123) := fun {l} hl x hx => by
        obtain ⟨y, hy, rfl⟩ := List.mem_map.mp hx
        exact hl y (mem_srtS.mp hy)
      have hp : ∀ {l l' : List Str}, (∀ x ∈ l, ∀ y ∈ l', ∀ s t, tl x ++ s = tl y ++ t → tl x = tl y ∧ s = t) → ∀ x ∈ (srtS l).map tl, ∀ y ∈ (srtS l').map tl, ∀ s t, x ++ s = y ++ t → x = y ∧ s = t := fun {l l'} hl x hx y hy s t e => by
        obtain ⟨x2, hx2, rfl⟩ := List.mem_map.mp hx
        obtain ⟨y2, hy2, rfl⟩ := List.mem_map.mp hy
        exact hl x2 (mem_srtS.mp hx2) y2 (mem_srtS.mp hy2) s t e
      obtain ⟨e1, h⟩ := join_cut (by decide) (by decide) (by decide) (hd ha) (hd ha') (hp h1) h
      obtain ⟨e2, _⟩ := join_cut (by decide) (by decide) (by decide) (hd hb) (hd hb') (hp h2) h
      have e1 := map_tl_inj e1
      have e2 := map_tl_inj e2
      exact ⟨fun k => by rw [← mem_srtS, e1, mem_srtS], fun k => by rw [← mem_srtS, e2, mem_srtS]⟩
theorem put_find {B : Bk} {q : Row} {m : Nat} (h : find B q = some m) : put B q = (B, m) := by unfold put; rw [h]
mutual
theorem putT_has : ∀ (B : Bk) (t : Tr), OkB B → ∀ m, m < B.length → tx B m = trT t → putT B t = (B, m)
  | B, .mk l r, ok, m, hm, ht => by
    have h1 := putTs_ok B l ok
    have h2 := putTs_ok (putTs B l).1 r h1.ok
    have i1 := putTs_has B l ok
    have i2 := putTs_has B r ok
    unfold putT
    by_cases c : (l.isEmpty && r.isEmpty) = true
    · rw [if_pos c]
      rw [Bool.and_eq_true, List.isEmpty_iff, List.isEmpty_iff] at c
      have e : tx B m = tx B 0 := by rw [ht, tx_zero ok, c.1, c.2]; exact txF_nil
      rw [tx_inj ok hm ok.pos e]
    · rw [if_neg c]
      have hq := List.getElem?_eq_getElem hm
      generalize B[m] = q at hq
      have e := tx_at ok hq
      rw [ht] at e
      have e : txF (trTs l) (trTs r) = txF (q.1.map (tx B)) (q.2.map (tx B)) := e
      have lq := ok.low m q hq
      have p1 : (putTs B l).2.map (tx (putTs (putTs B l).1 r).1) = trTs l := by
        rw [← h1.tx]
        exact List.map_congr_left fun m hm => tx_pre' h2.pre (h1.low m hm)
      have p2 := h2.tx
      have ok2 := h2.ok
      have low1 : ∀ n ∈ (putTs B l).2, n < (putTs (putTs B l).1 r).1.length := fun n hn => Nat.lt_of_lt_of_le (h1.low n hn) (pre_len h2.pre)
      have low2 := h2.low
      have pre := h1.pre.trans h2.pre
      have q1 : ∀ (f : List Nat), (∀ n ∈ f, n < m) → f.map (tx B) = f.map (tx (putTs (putTs B l).1 r).1) := fun f hf => List.map_congr_left fun n hn => (tx_pre' pre (by have := hf n hn; omega)).symm
      have a1 : ∀ n ∈ q.1, n < m := fun n hn => lq n (List.mem_append_left _ hn)
      have a2 : ∀ n ∈ q.2, n < m := fun n hn => lq n (List.mem_append_right _ hn)
      have lB := pre_len pre
      have hdg : ∀ (f : List Nat), (∀ n ∈ f, n < (putTs (putTs B l).1 r).1.length) → ∀ x ∈ f.map (tx (putTs (putTs B l).1 r).1), ∃ c r, tl x = c :: r ∧ (c = 48 ∨ c = 123) := fun f hf x hx => by
        obtain ⟨n, hn, rfl⟩ := List.mem_map.mp hx
        exact tx_head ok2 (hf n hn)
      have prg : ∀ (f f' : List Nat), (∀ n ∈ f, n < (putTs (putTs B l).1 r).1.length) → (∀ n ∈ f', n < (putTs (putTs B l).1 r).1.length) → ∀ x ∈ f.map (tx (putTs (putTs B l).1 r).1), ∀ y ∈ f'.map (tx (putTs (putTs B l).1 r).1), ∀ s t, tl x ++ s = tl y ++ t → tl x = tl y ∧ s = t := fun f f' hf hf' x hx y hy s t e => by
        obtain ⟨n, hn, rfl⟩ := List.mem_map.mp hx
        obtain ⟨n', hn', rfl⟩ := List.mem_map.mp hy
        obtain ⟨z1, z2⟩ := tx_pre ok2 n (hf n hn) n' (hf' n' hn') s t e
        exact ⟨by rw [z1], z2⟩
      have b1 : ∀ n ∈ q.1, n < (putTs (putTs B l).1 r).1.length := fun n hn => by have := a1 n hn; omega
      have b2 : ∀ n ∈ q.2, n < (putTs (putTs B l).1 r).1.length := fun n hn => by have := a2 n hn; omega
      have e' := e
      rw [q1 q.1 a1, q1 q.2 a2, ← p1, ← p2] at e'
      obtain ⟨s1, s2⟩ := txF_inj (hdg _ low1) (hdg _ b1) (hdg _ low2) (hdg _ b2) (prg _ _ low1 b1) (prg _ _ low2 b2) e'
      rw [p1, ← q1 q.1 a1] at s1
      rw [p2, ← q1 q.2 a2] at s2
      have j1 := i1 fun s hs => by
        obtain ⟨n, hn, rfl⟩ := List.mem_map.mp ((s1 s).mp hs)
        exact ⟨n, by have := a1 n hn; omega, rfl⟩
      have j2 := i2 fun s hs => by
        obtain ⟨n, hn, rfl⟩ := List.mem_map.mp ((s2 s).mp hs)
        exact ⟨n, by have := a2 n hn; omega, rfl⟩
      have k1 := h1.tx
      have k2 := h2.tx
      have lw1 := h1.low
      have lw2 := h2.low
      rw [j1] at k1 k2 lw1 lw2 ⊢
      rw [j2] at k2 lw2 ⊢
      have same : ∀ (f g : List Nat) (ts : List Str), (∀ n ∈ f, n < B.length) → (∀ n ∈ g, n < B.length) → g.Pairwise (· < ·) → f.map (tx B) = ts → (∀ k, k ∈ ts ↔ k ∈ g.map (tx B)) → nrm f = g := fun f g ts hf hg hs he hk => by
        refine srt_ext (nrm_srt f) hs fun n => ⟨fun hn => ?_, fun hn => ?_⟩
        · have hn := mem_nrm.mp hn
          obtain ⟨n', hn', e3⟩ := List.mem_map.mp ((hk (tx B n)).mp (by rw [← he]; exact List.mem_map_of_mem hn))
          rw [← tx_inj ok (hg n' hn') (hf n hn) e3]; exact hn'
        · have h3 := (hk (tx B n)).mpr (List.mem_map_of_mem hn)
          rw [← he] at h3
          obtain ⟨n', hn', e3⟩ := List.mem_map.mp h3
          rw [← tx_inj ok (hf n' hn') (hg n hn) e3]; exact mem_nrm.mpr hn'
      have sq := ok.srt q (List.mem_of_getElem? hq)
      have r1 := same _ q.1 _ lw1 (fun n hn => by have := a1 n hn; omega) sq.1 k1 s1
      have r2 := same _ q.2 _ lw2 (fun n hn => by have := a2 n hn; omega) sq.2 k2 s2
      rw [r1, r2]
      exact put_find (find_of ok.nd hq)
theorem putTs_has : ∀ (B : Bk) (ts : List Tr), OkB B → (∀ s ∈ trTs ts, ∃ m, m < B.length ∧ tx B m = s) → (putTs B ts).1 = B
  | B, [], _, _ => rfl
  | B, t :: ts, ok, h => by
    obtain ⟨m, hm, e⟩ := h (trT t) (List.mem_cons_self ..)
    have h1 := putT_has B t ok m hm e
    have h2 := putTs_has B ts ok fun s hs => h s (List.mem_cons_of_mem _ hs)
    unfold putTs
    rw [h1]
    exact h2
end
/-! what is new has one of the tree's texts -/
mutual
def Tr.inX (X : Str → Prop) : Tr → Prop
  | .mk l r => X (trT (.mk l r)) ∧ Tr.insX X l ∧ Tr.insX X r
def Tr.insX (X : Str → Prop) : List Tr → Prop
  | [] => True
  | t :: ts => Tr.inX X t ∧ Tr.insX X ts
end
mutual
theorem putT_new (X : Str → Prop) : ∀ (B : Bk) (t : Tr), OkB B → t.inX X → ∀ m, B.length ≤ m → m < (putT B t).1.length → X (tx (putT B t).1 m)
  | B, .mk l r, ok, hx, m, h0, hm => by
    have h1 := putTs_ok B l ok
    have h2 := putTs_ok (putTs B l).1 r h1.ok
    have n1 := putTs_new X B l ok hx.2.1
    have n2 := putTs_new X (putTs B l).1 r h1.ok hx.2.2
    have hT := putT_ok B (.mk l r) ok
    have tx0 := hT.tx
    unfold putT at hm tx0 ⊢
    by_cases c : (l.isEmpty && r.isEmpty) = true
    · rw [if_pos c] at hm; exact absurd hm (by show ¬ m < B.length; omega)
    · rw [if_neg c] at hm tx0 ⊢
      rcases put_all hm with q | q
      · rw [tx_pre' put_pre q]
        by_cases d : m < (putTs B l).1.length
        · rw [tx_pre' h2.pre d]; exact n1 m h0 d
        · exact n2 m (Nat.le_of_not_lt d) q
      · rw [q, tx0]; exact hx.1
theorem putTs_new (X : Str → Prop) : ∀ (B : Bk) (ts : List Tr), OkB B → Tr.insX X ts → ∀ m, B.length ≤ m → m < (putTs B ts).1.length → X (tx (putTs B ts).1 m)
  | B, [], _, _, m, h0, hm => absurd hm (by show ¬ m < B.length; omega)
  | B, t :: ts, ok, hx, m, h0, hm => by
    have h1 := putT_ok B t ok
    have h2 := putTs_ok (putT B t).1 ts h1.ok
    have n1 := putT_new X B t ok hx.1
    have n2 := putTs_new X (putT B t).1 ts h1.ok hx.2
    have hm : m < (putTs (putT B t).1 ts).1.length := hm
    show X (tx (putTs (putT B t).1 ts).1 m)
    by_cases d : m < (putT B t).1.length
    · rw [tx_pre' h2.pre d]; exact n1 m h0 d
    · exact n2 m (Nat.le_of_not_lt d) hm
end
theorem Tr.szs_app : ∀ (a b : List Tr), Tr.szs (a ++ b) = Tr.szs a + Tr.szs b
  | [], b => (Nat.zero_add _).symm
  | t :: a, b => by
    show t.sz + Tr.szs (a ++ b) = t.sz + Tr.szs a + Tr.szs b
    rw [Tr.szs_app a b]; omega
theorem Tr.szs_take {l : List Tr} {i : Nat} {t : Tr} (h : l[i]? = some t) : Tr.szs (l.take i) + t.sz ≤ Tr.szs l := by
  have e : l.take (i + 1) = l.take i ++ [t] := by rw [List.take_add_one, h]; rfl
  have e2 := Tr.szs_app (l.take (i + 1)) (l.drop (i + 1))
  rw [List.take_append_drop, e, Tr.szs_app] at e2
  have : Tr.szs [t] = t.sz := Nat.add_zero _
  omega
theorem putTs_take {B : Bk} {l : List Tr} {i : Nat} {t : Tr} (h : l[i]? = some t) : putTs B (l.take (i + 1)) = ((putT (putTs B (l.take i)).1 t).1, (putTs B (l.take i)).2 ++ [(putT (putTs B (l.take i)).1 t).2]) := by
  have e : l.take (i + 1) = l.take i ++ [t] := by rw [List.take_add_one, h]; rfl
  rw [e, putTs_snoc]
theorem putTs_len : ∀ (B : Bk) (l : List Tr), (putTs B l).2.length = l.length
  | B, [] => rfl
  | B, t :: l => by
    show ((putT B t).2 :: (putTs (putT B t).1 l).2).length = _
    rw [List.length_cons, List.length_cons, putTs_len]
theorem sloop_sz {g : Nat → Option (Tr × Nat)} {T : List Nat} (h : ∀ a m p, g a = some (m, p) → a + m.sz ≤ p) {e s : Nat} : ∀ (f : Nat) (ms : List Tr) (last : List Nat) (a : Nat) (l : List Tr) (p : Nat), s + Tr.szs ms ≤ a → sloop g T e f ms last a = some (l, p) → s + Tr.szs l ≤ p
  | 0, ms, last, a, l, p, _, q => by cases q
  | f + 1, ms, last, a, l, p, hm, q => by
    unfold sloop at q
    cases e1 : g a with
    | none => rw [e1] at q; cases q
    | some mp =>
      obtain ⟨m, p1⟩ := mp
      rw [e1] at q
      have h1 := h a m p1 e1
      have h2 : s + Tr.szs (ms ++ [m]) ≤ p1 + 1 := by
        have : Tr.szs [m] = m.sz := Nat.add_zero _
        rw [Tr.szs_app]; omega
      dsimp only at q
      split at q
      · cases q
      · split at q
        · cases q; exact h2
        · split at q
          · exact sloop_sz h f _ _ _ l p h2 q
          · cases q
theorem sread_sz {g : Nat → Option (Tr × Nat)} {T : List Nat} (h : ∀ a m p, g a = some (m, p) → a + m.sz ≤ p) {e a : Nat} {l : List Tr} {p : Nat} (q : sread g T e a = some (l, p)) : a + Tr.szs l ≤ p := by
  unfold sread at q
  split at q
  · cases q; exact Nat.le_succ _
  · exact sloop_sz h _ _ _ _ _ _ (Nat.le_refl _) q
theorem gread_sz (T : List Nat) : ∀ r a m p, gread T r a = some (m, p) → a + m.sz ≤ p
  | 0, a, m, p, q => by
    unfold gread at q
    split at q
    · cases q; exact Nat.le_refl _
    · cases q
  | r + 1, a, m, p, q => by
    have ih := gread_sz T r
    unfold gread at q
    split at q
    · cases q; exact Nat.le_refl _
    · split at q
      · cases e1 : sread (gread T r) T 124 (a + 1) with
        | none => rw [e1] at q; cases q
        | some lp =>
          obtain ⟨ls, p1⟩ := lp
          rw [e1] at q
          dsimp only at q
          have h1 := sread_sz ih e1
          cases e2 : sread (gread T r) T 125 p1 with
          | none => rw [e2] at q; cases q
          | some lp =>
            obtain ⟨rs, p2⟩ := lp
            rw [e2] at q
            dsimp only at q
            have h2 := sread_sz ih e2
            split at q
            · cases q
            · cases q
              show a + (1 + (Tr.szs ls + Tr.szs rs)) ≤ p
              omega
      · cases q
end G

namespace G
open PySem L2 TL
/-! ### what is written is read -/
mutual
def Tr.okc : Tr → Prop
  | .mk l r => (l.map trT).Pairwise slt ∧ (r.map trT).Pairwise slt ∧ Tr.okcs l ∧ Tr.okcs r
def Tr.okcs : List Tr → Prop
  | [] => True
  | t :: ts => Tr.okc t ∧ Tr.okcs ts
end
theorem Tr.okcs_iff : ∀ {l : List Tr}, Tr.okcs l ↔ ∀ t ∈ l, t.okc
  | [] => ⟨fun _ t h => by simp at h, fun _ => trivial⟩
  | a :: l => by
    show (a.okc ∧ Tr.okcs l) ↔ _
    rw [Tr.okcs_iff, List.forall_mem_cons]
theorem Tr.wides_iff : ∀ {l : List Tr}, Tr.wides l ↔ ∀ t ∈ l, t.wide
  | [] => ⟨fun _ t h => by simp at h, fun _ => trivial⟩
  | a :: l => by
    show (a.wide ∧ Tr.wides l) ↔ _
    rw [Tr.wides_iff, List.forall_mem_cons]
theorem Tr.insX_iff {X : Str → Prop} : ∀ {l : List Tr}, Tr.insX X l ↔ ∀ t ∈ l, t.inX X
  | [] => ⟨fun _ t h => by simp at h, fun _ => trivial⟩
  | a :: l => by
    show (a.inX X ∧ Tr.insX X l) ↔ _
    rw [Tr.insX_iff, List.forall_mem_cons]
theorem Tr.deps_lt {n : Nat} : ∀ {l : List Tr}, (∀ t ∈ l, t.dep < n) → Tr.deps l ≤ n
  | [], _ => Nat.zero_le _
  | t :: l, h => by
    have h1 := h t (by simp)
    have h2 := Tr.deps_lt (l := l) fun u hu => h u (List.mem_cons_of_mem _ hu)
    show max (t.dep + 1) (Tr.deps l) ≤ n
    omega
theorem trT_head (t : Tr) : ∃ c r, tl (trT t) = c :: r ∧ (c = 48 ∨ c = 123) := by
  obtain ⟨l, r⟩ := t
  exact txF_head _ _
theorem sg_app {T X s : List Nat} {a : Nat} (h : T.drop a = X ++ s) : sg T a (a + X.length) = X := by
  unfold sg
  rw [h, Nat.add_sub_cancel_left, List.take_left]
theorem drop_app {T X s : List Nat} {a : Nat} (h : T.drop a = X ++ s) : T.drop (a + X.length) = s := by
  rw [← List.drop_drop, h, List.drop_left]
theorem sg_cons {T s : List Nat} {a c : Nat} (h : T.drop a = c :: s) : sg T a (a + 1) = [c] := by
  unfold sg
  rw [h, Nat.add_sub_cancel_left]; rfl
theorem drop_cons {T s : List Nat} {a c : Nat} (h : T.drop a = c :: s) : T.drop (a + 1) = s := by
  rw [← List.drop_drop, h]; rfl
theorem drop_lt {T s : List Nat} {a c : Nat} (h : T.drop a = c :: s) : a < T.length := by
  by_cases q : a < T.length
  · exact q
  · rw [List.drop_of_length_le (Nat.le_of_not_lt q)] at h; cases h
def Jt (l : List Tr) : List Nat := joinL [44] ((l.map trT).map tl)
theorem sloop_comp {g : Nat → Option (Tr × Nat)} {T : List Nat} {e : Nat} (he : e ≠ 44) : ∀ (l : List Tr) (ms : List Tr) (last : List Nat) (f a : Nat) (s : List Nat), l ≠ [] →
    (∀ t ∈ l, ∀ a s, T.drop a = tl (trT t) ++ s → g a = some (t, a + (tl (trT t)).length)) → (ms ≠ [] → ∀ t r, l = t :: r → last < tl (trT t)) → (l.map trT).Pairwise slt → T.drop a = Jt l ++ e :: s → T.length + 1 ≤ a + f →
    sloop g T e f ms last a = some (ms ++ l, a + (Jt l).length + 1)
  | [], _, _, _, _, _, h, _, _, _, _, _ => absurd rfl h
  | t :: rest, ms, last, f, a, s, _, hg, hl, pw, hd, hf => by
    obtain ⟨c, r, ec, _⟩ := trT_head t
    have hd1 : ∃ s', T.drop a = tl (trT t) ++ s' ∧ (rest = [] → s' = e :: s ∧ Jt (t :: rest) = tl (trT t)) ∧ (rest ≠ [] → s' = 44 :: (Jt rest ++ e :: s) ∧ Jt (t :: rest) = tl (trT t) ++ 44 :: Jt rest) := by
      cases rest with
      | nil => exact ⟨e :: s, hd, fun _ => ⟨rfl, rfl⟩, fun z => absurd rfl z⟩
      | cons u us =>
        refine ⟨44 :: (Jt (u :: us) ++ e :: s), ?_, (fun z => nomatch z), fun _ => ⟨rfl, rfl⟩⟩
        rw [hd]
        show (tl (trT t) ++ (44 :: Jt (u :: us))) ++ e :: s = _
        rw [List.append_assoc]; rfl
    obtain ⟨s', hd1, h0, h1⟩ := hd1
    have hlt : a < T.length := drop_lt (c := c) (s := r ++ s') (by rw [hd1, ec]; rfl)
    obtain ⟨f', rfl⟩ : ∃ f', f = f' + 1 := ⟨f - 1, by omega⟩
    have hga := hg t (by simp) a s' hd1
    have hsg := sg_app hd1
    have hdp := drop_app hd1
    have cond : ¬ (ms ≠ [] ∧ ¬ (last < sg T a (a + (tl (trT t)).length))) := fun z => z.2 (by rw [hsg]; exact hl z.1 t rest rfl)
    unfold sloop
    rw [hga]
    dsimp only
    rw [if_neg cond]
    by_cases c0 : rest = []
    · obtain ⟨e1, e2⟩ := h0 c0
      rw [e1] at hdp
      rw [if_pos (sg_cons hdp), e2, c0]
    · obtain ⟨e1, e2⟩ := h1 c0
      rw [e1] at hdp
      have n1 : ¬ sg T (a + (tl (trT t)).length) (a + (tl (trT t)).length + 1) = [e] := by
        rw [sg_cons hdp]
        intro z; exact he (List.cons.inj z).1.symm
      rw [if_neg n1, if_pos (sg_cons hdp), hsg]
      have pw2 := (List.pairwise_cons.mp pw)
      rw [sloop_comp he rest (ms ++ [t]) (tl (trT t)) f' _ s c0 (fun u hu => hg u (List.mem_cons_of_mem _ hu)) (fun _ u us eu => pw2.1 (trT u) (by rw [eu]; simp)) pw2.2 (drop_cons hdp) (by omega)]
      rw [e2, List.length_append, List.length_cons, List.append_assoc]
      refine congrArg some (Prod.ext rfl ?_)
      show _ + _ + 1 = _
      omega
theorem sread_comp {g : Nat → Option (Tr × Nat)} {T : List Nat} {e : Nat} (he : e ≠ 44) (he2 : e ≠ 48) (he3 : e ≠ 123) {l : List Tr} (hg : ∀ t ∈ l, ∀ a s, T.drop a = tl (trT t) ++ s → g a = some (t, a + (tl (trT t)).length)) (pw : (l.map trT).Pairwise slt) {a : Nat} {s : List Nat} (hd : T.drop a = Jt l ++ e :: s) :
    sread g T e a = some (l, a + (Jt l).length + 1) := by
  unfold sread
  cases l with
  | nil => rw [if_pos (sg_cons hd)]; rfl
  | cons t rest =>
    obtain ⟨c, r, ec, hc⟩ := trT_head t
    have hj : ∃ z, Jt (t :: rest) = c :: z := by
      cases rest with
      | nil => exact ⟨r, ec⟩
      | cons u us => exact ⟨r ++ (44 :: Jt (u :: us)), by show tl (trT t) ++ _ = _; rw [ec]; rfl⟩
    obtain ⟨z, ez⟩ := hj
    have hn : ¬ sg T a (a + 1) = [e] := by
      rw [sg_cons (c := c) (s := z ++ e :: s) (by rw [hd, ez]; rfl)]
      intro q
      have := (List.cons.inj q).1
      omega
    rw [if_neg hn, sloop_comp he (t :: rest) [] [] _ a s (by simp) hg (fun z => absurd rfl z) pw hd (by omega)]
    rfl
theorem gread_comp (T : List Nat) : ∀ (r : Nat) (t : Tr), t.okc → t.dep ≤ r → ∀ a s, T.drop a = tl (trT t) ++ s → gread T r a = some (t, a + (tl (trT t)).length) := by
  intro r
  induction r with
  | zero =>
    intro t ok hd a s h
    obtain ⟨l, r'⟩ := t
    have hd : max (Tr.deps l) (Tr.deps r') ≤ 0 := hd
    have e1 : l = [] := by
      cases l with
      | nil => rfl
      | cons t l => have : max (t.dep + 1) (Tr.deps l) ≤ 0 := by have e : Tr.deps (t :: l) = max (t.dep + 1) (Tr.deps l) := rfl; omega
                    omega
    have e2 : r' = [] := by
      cases r' with
      | nil => rfl
      | cons t l => have : max (t.dep + 1) (Tr.deps l) ≤ 0 := by have e : Tr.deps (t :: l) = max (t.dep + 1) (Tr.deps l) := rfl; omega
                    omega
    subst e1 e2
    have et : tl (trT (.mk [] [])) = [48] := by show tl (txF [] []) = _; rw [txF_nil, c_0]
    rw [et] at h ⊢
    unfold gread
    rw [if_pos (sg_cons h)]; rfl
  | succ n ih =>
    intro t ok hd a s h
    obtain ⟨l, r'⟩ := t
    obtain ⟨p1, p2, o1, o2⟩ := ok
    have hd : max (Tr.deps l) (Tr.deps r') ≤ n + 1 := hd
    by_cases c : l = [] ∧ r' = []
    · obtain ⟨e1, e2⟩ := c
      subst e1 e2
      have et : tl (trT (.mk [] [])) = [48] := by show tl (txF [] []) = _; rw [txF_nil, c_0]
      rw [et] at h ⊢
      unfold gread
      rw [if_pos (sg_cons h)]; rfl
    · have nn : ¬ (trTs l = [] ∧ trTs r' = []) := by
        rw [trTs_map, trTs_map, List.map_eq_nil_iff, List.map_eq_nil_iff]; exact c
      have et : tl (trT (.mk l r')) = 123 :: (Jt l ++ 124 :: (Jt r' ++ [125])) := by
        show tl (txF (trTs l) (trTs r')) = _
        rw [txF_tl nn, trTs_map, trTs_map, ← srtS_of p1 fun _ => Iff.rfl, ← srtS_of p2 fun _ => Iff.rfl]
        rfl
      rw [et] at h ⊢
      have h : T.drop a = 123 :: (Jt l ++ 124 :: (Jt r' ++ [125]) ++ s) := h
      have d1 := drop_cons h
      rw [List.append_assoc] at d1
      have d1 : T.drop (a + 1) = Jt l ++ 124 :: (Jt r' ++ [125] ++ s) := d1
      have q1 := sread_comp (g := gread T n) (by decide) (by decide) (by decide) (fun t ht a s hh => ih t (Tr.okcs_iff.mp o1 t ht) (Tr.deps_le.mp (by omega) t ht) a s hh) p1 d1
      have d2 := drop_cons (drop_app d1)
      rw [List.append_assoc] at d2
      have d2 : T.drop (a + 1 + (Jt l).length + 1) = Jt r' ++ 125 :: s := d2
      have q2 := sread_comp (g := gread T n) (by decide) (by decide) (by decide) (fun t ht a s hh => ih t (Tr.okcs_iff.mp o2 t ht) (Tr.deps_le.mp (by omega) t ht) a s hh) p2 d2
      have s1 := sg_cons h
      rw [gr_s (by rw [s1]; decide) s1 q1 q2, if_neg c]
      refine congrArg some (Prod.ext rfl ?_)
      simp only [List.length_cons, List.length_append, List.length_nil]
      omega
/-- a list of trees for a list of texts -/
theorem pick {P : Tr → Prop} : ∀ {S : List Str}, (∀ s ∈ S, ∃ t, trT t = s ∧ P t) → ∃ ts : List Tr, ts.map trT = S ∧ ∀ t ∈ ts, P t
  | [], _ => ⟨[], rfl, fun _ h => by simp at h⟩
  | s :: S, h => by
    obtain ⟨t, e, p⟩ := h s (by simp)
    obtain ⟨ts, e2, p2⟩ := pick (S := S) fun z hz => h z (List.mem_cons_of_mem _ hz)
    exact ⟨t :: ts, by rw [List.map_cons, e, e2], fun u hu => by rcases List.mem_cons.mp hu with q | q; rw [q]; exact p; exact p2 u q⟩
theorem tree_of {tab : Bk} (low : ∀ (i : Nat) (r : Row), tab[i]? = some r → ∀ m ∈ r.1 ++ r.2, m < i) (side : ∀ r ∈ tab, r.1.length ≤ 60 ∧ r.2.length ≤ 60) :
    ∀ i, i < tab.length → ∃ t : Tr, trT t = tt tab i ∧ t.okc ∧ t.dep ≤ dp tab i ∧ t.wide ∧ t.inX fun s => ∃ j, j < tab.length ∧ s = tt tab j := by
  intro i
  induction i using Nat.strongRecOn with
  | ind i ih =>
    intro hi
    have hr := List.getElem?_eq_getElem hi
    generalize tab[i] = r at hr
    have li := low i r hr
    have sd := side r (List.mem_of_getElem? hr)
    have one : ∀ l : List Nat, (∀ m ∈ l, m ∈ r.1 ++ r.2) → ∃ ts : List Tr, ts.map trT = srtS (l.map (tt tab)) ∧ ∀ t ∈ ts, t.okc ∧ t.dep < dp tab i ∧ t.wide ∧ t.inX fun s => ∃ j, j < tab.length ∧ s = tt tab j := fun l hl => by
      refine pick fun s hs => ?_
      obtain ⟨m, hm, rfl⟩ := List.mem_map.mp (mem_srtS.mp hs)
      have hm2 := hl m hm
      have lt := li m hm2
      obtain ⟨t, e, a, b, c, d⟩ := ih m lt (by omega)
      exact ⟨t, e, a, Nat.lt_of_le_of_lt b (dp_ltL low hr hm2), c, d⟩
    obtain ⟨ls, e1, h1⟩ := one r.1 fun m hm => List.mem_append_left _ hm
    obtain ⟨rs, e2, h2⟩ := one r.2 fun m hm => List.mem_append_right _ hm
    have et : trT (.mk ls rs) = tt tab i := by
      show txF (trTs ls) (trTs rs) = _
      rw [trTs_map, trTs_map, e1, e2, tt_at low hr]
      exact txF_congr (fun k => mem_srtS) fun k => mem_srtS
    have n1 : ls.length ≤ 60 := by
      have := srtS_len (r.1.map (tt tab))
      rw [← e1, List.length_map, List.length_map] at this
      omega
    have n2 : rs.length ≤ 60 := by
      have := srtS_len (r.2.map (tt tab))
      rw [← e2, List.length_map, List.length_map] at this
      omega
    refine ⟨.mk ls rs, et, ⟨by rw [e1]; exact srtS_srt _, by rw [e2]; exact srtS_srt _, Tr.okcs_iff.mpr fun t ht => (h1 t ht).1, Tr.okcs_iff.mpr fun t ht => (h2 t ht).1⟩, ?_, ⟨n1, n2, Tr.wides_iff.mpr fun t ht => (h1 t ht).2.2.1, Tr.wides_iff.mpr fun t ht => (h2 t ht).2.2.1⟩, ⟨⟨i, hi, et⟩, Tr.insX_iff.mpr fun t ht => (h1 t ht).2.2.2, Tr.insX_iff.mpr fun t ht => (h2 t ht).2.2.2⟩⟩
    have d1 := Tr.deps_lt (n := dp tab i) fun t ht => (h1 t ht).2.1
    have d2 := Tr.deps_lt (n := dp tab i) fun t ht => (h2 t ht).2.1
    show max (Tr.deps ls) (Tr.deps rs) ≤ dp tab i
    omega
end G

namespace G
open PySem L2 TL
theorem kRevL {X : Cx} (K : PySem.W.Frag) {e : Expr} {te : TE} {k : Nat} {p1 p2 p3 pos : Pos} (he : PE X e te) (hK : X.K = K := by rfl) : PE X (.Subscript e (.Slice none none (some (.UnaryOp .USub (.Constant (.int 1) k p1) p2)) p3) pos) (tRevL K te) := by rw [← hK]; exact pe_revL he
section
variable {K : PySem.W.Frag} {σ : L2.St} {H : Hp} {Q : VK} {ta : TE}
theorem w_revL {te : TE} (h : te σ H fun x H1 => ∃ a xs, x = .ref a ∧ SqL K H1 a xs ∧ ∀ p, H1 p = none → Q (.ref p) (upd H1 p (.lst xs.reverse))) : tRevL K te σ H Q := h
theorem w_listRg1 (h : ta σ H fun x H1 => ∃ n, x = .int n ∧ RgOk 0 n ∧ ∀ q, H1 q = none → Q (.ref q) (upd H1 q (.lst (rgV 0 n)))) : tLstRg (tRg1 ta) σ H Q := by
  refine h
end
theorem rgV_nV (n : Nat) : rgV 0 (n : Int) = nV (List.range n) := by
  unfold rgV nV
  rw [Int.sub_zero, Int.toNat_natCast]
  exact List.map_congr_left fun i _ => by rw [Int.zero_add]
theorem nV_rev (l : List Nat) : (nV l).reverse = nV l.reverse := by unfold nV; rw [List.map_reverse]
/-! ### the other book -/
theorem sub_len {α : Type} [BEq α] [LawfulBEq α] : ∀ {l m : List α}, l.Nodup → (∀ x ∈ l, x ∈ m) → l.length ≤ m.length
  | [], _, _, _ => Nat.zero_le _
  | a :: l, m, nd, h => by
    have ha : a ∈ m := h a (by simp)
    have nd2 := List.nodup_cons.mp nd
    have ih := sub_len (l := l) (m := m.erase a) nd2.2 fun x hx => by
      have hx2 : x ≠ a := fun z => nd2.1 (by rw [← z]; exact hx)
      exact (List.mem_erase_of_ne hx2).mpr (h x (List.mem_cons_of_mem _ hx))
    have e := List.length_erase_of_mem ha
    have p : 0 < m.length := List.length_pos_of_mem ha
    rw [List.length_cons]
    omega
structure OthI (tab : Bk) (b0 : Nat) (B : Bk) : Prop where
  ok : OkB B
  le : b0 ≤ B.length
  b6 : b0 ≤ 6
  old : ∀ m, m < b0 → (tx B m).length ≤ 1000
  new : ∀ m, b0 ≤ m → m < B.length → ∃ j, j < tab.length ∧ tx B m = tt tab j
theorem OthI.len {tab : Bk} {b0 : Nat} {B : Bk} (o : OthI tab b0 B) : B.length ≤ b0 + tab.length := by
  have nd : (((List.range B.length).drop b0).map (tx B)).Nodup := by
    unfold List.Nodup
    rw [List.pairwise_map]
    have h : (List.range B.length).Pairwise (· < ·) := List.pairwise_lt_range
    refine (h.sublist (List.drop_sublist _ _)).imp_of_mem fun {a b} ha hb hab e => ?_
    have h1 := List.mem_range.mp (List.mem_of_mem_drop ha)
    have h2 := List.mem_range.mp (List.mem_of_mem_drop hb)
    have := tx_inj o.ok h1 h2 e
    omega
  have h := sub_len (m := (List.range tab.length).map (tt tab)) nd fun x hx => by
    obtain ⟨m, hm, rfl⟩ := List.mem_map.mp hx
    obtain ⟨i, hi⟩ := List.mem_iff_getElem?.mp hm
    rw [List.getElem?_drop] at hi
    have hl := (List.getElem?_eq_some_iff.mp hi).1
    have e : b0 + i = m := by
      rw [List.length_range] at hl
      rw [List.getElem?_range hl] at hi
      exact Option.some.inj hi
    rw [List.length_range] at hl
    obtain ⟨j, hj, e2⟩ := o.new m (by omega) (by omega)
    rw [e2]
    exact List.mem_map_of_mem (List.mem_range.mpr hj)
  rw [List.length_map, List.length_drop, List.length_range, List.length_map, List.length_range] at h
  omega
theorem OthI.put {tab : Bk} {b0 : Nat} {B : Bk} (o : OthI tab b0 B) {t : Tr} (h : t.inX fun s => ∃ j, j < tab.length ∧ s = tt tab j) : OthI tab b0 (putT B t).1 := by
  have p := putT_ok B t o.ok
  have n := putT_new _ B t o.ok h
  refine ⟨p.ok, Nat.le_trans o.le (pre_len p.pre), o.b6, fun m hm => ?_, fun m h0 hm => ?_⟩
  · rw [tx_pre' p.pre (by have := o.le; omega)]; exact o.old m hm
  · by_cases c : m < B.length
    · rw [tx_pre' p.pre c]; exact o.new m h0 c
    · exact n m (Nat.le_of_not_lt c) hm
def LB : Nat → Nat
  | 0 => 1
  | i + 1 => 2 * LB i + 5
structure RndI (i : Nat) (B : Bk) : Prop where
  ok : OkB B
  len : B.length ≤ 1 + i
  txt : ∀ m, m < B.length → (tx B m).length ≤ LB i
theorem RndI.zero : RndI 0 B0 := ⟨okB0, Nat.le_refl _, fun m hm => by
  have e : m = 0 := by have e : B0.length = 1 := rfl; omega
  rw [e, tx_zero okB0]; decide +kernel⟩
theorem RndI.step {i : Nat} {B : Bk} (r : RndI i B) {a c : Nat} (ha : a < B.length) (hc : c < B.length) : RndI (i + 1) (put B (nrm [a], nrm [c])).1 := by
  have ft : Fits B (nrm [a], nrm [c]) := ⟨⟨nrm_srt _, nrm_srt _⟩, fun m hm => by
    rcases List.mem_append.mp hm with h | h
    · have := mem_nrm.mp h; simp at this; omega
    · have := mem_nrm.mp h; simp at this; omega⟩
  have ok2 := put_ok r.ok ft
  have sz := put_size (B := B) (r := (nrm [a], nrm [c]))
  refine ⟨ok2, by have := r.len; omega, fun m hm => ?_⟩
  show _ ≤ 2 * LB i + 5
  rcases put_all hm with h | h
  · rw [tx_pre' put_pre h]; have := r.txt m h; omega
  · rw [h, tx_at ok2 put_get]
    have e1 : nrm [a] = [a] := nrm_of_srt (by simp)
    have e2 : nrm [c] = [c] := nrm_of_srt (by simp)
    have hl := txF_len ((nrm [a]).map (tx (G.put B (nrm [a], nrm [c])).1)) ((nrm [c]).map (tx (G.put B (nrm [a], nrm [c])).1))
    refine Nat.le_trans hl ?_
    rw [e1, e2]
    have n0 : wS [] = 0 := rfl
    simp only [List.map_cons, List.map_nil, wS_cons, n0]
    rw [e1, e2] at ok2
    have p1 := tx_pre' (B := B) (B' := (G.put B ([a], [c])).1) put_pre ha
    have p2 := tx_pre' (B := B) (B' := (G.put B ([a], [c])).1) put_pre hc
    rw [p1, p2]
    have := r.txt a ha
    have := r.txt c hc
    omega
theorem dp_le {B : Bk} (ok : OkB B) : ∀ g, g < B.length → dp B g ≤ g := by
  intro g
  induction g using Nat.strongRecOn with
  | ind g ih =>
    intro hg
    have hr := List.getElem?_eq_getElem hg
    generalize B[g] = r at hr
    have e : dp B g = ((r.1 ++ r.2).map (dp B)).foldr (fun x m => max (x + 1) m) 0 := by
      unfold dp
      rw [val_eq dpF 0 ok hr, List.map_append]; rfl
    rw [e]
    refine foldr_max_bd fun x hx => ?_
    obtain ⟨m, hm, rfl⟩ := List.mem_map.mp hx
    have h1 := ok.low g r hr m hm
    have h2 := ih m h1 (by omega)
    omega
end G

namespace G
open PySem L2
local macro_rules | `(tactic| walk_at "v") => `(tactic| ((with_reducible refine' w_var ?h ?_); (case h => exact rfl)))
local macro_rules | `(tactic| walk_at "st") => `(tactic| repeat (first
  | with_reducible refine w_seq ?_ | with_reducible refine w_asg ?_ | with_reducible refine w_name ?_ | walk_at "v" | with_reducible refine w_c ?_ | with_reducible refine w_op ?_ | with_reducible refine w_I0 ?_
  | with_reducible refine w_cons ?_ | with_reducible refine w_nil ?_ | with_reducible refine w_ret ?_ | with_reducible refine w_next ?_ | with_reducible refine w_if ?_ | with_reducible refine w_test ?_ | with_reducible refine w_bl ?_
  | with_reducible refine w_lst ?_ | with_reducible refine w_tup ?_ | with_reducible refine w_un ?_ | with_reducible refine w_U ?_ | with_reducible refine w_eqI ?_ | with_reducible refine w_neI ?_ | with_reducible refine w_eqS ?_ | with_reducible refine w_neS ?_
  | with_reducible refine w_yesT ?_ | with_reducible refine w_wp ?_ | with_reducible refine w_new ?_ | with_reducible refine w_nT ?_ | with_reducible refine w_nF ?_ | with_reducible refine iteT ?_ | with_reducible refine iteF ?_ | with_reducible refine w_retN ?_ | with_reducible refine w_drop ?_ | with_reducible refine w_ifE ?_ | with_reducible refine w_B ?_ | with_reducible refine w_and ?_ | with_reducible refine w_or ?_ | with_reducible refine w_not ?_
  | with_reducible refine w_andV ?_ | with_reducible refine w_orV ?_ | with_reducible refine w_notV ?_ | with_reducible refine w_CB ?_ | with_reducible refine w_call ?_ | with_reducible refine w_callS ?_ | with_reducible refine w_meth ?_ | with_reducible refine w_make ?_ | with_reducible refine w_fld ?_
  | with_reducible refine w_sfld ?_ | with_reducible refine w_BM ?_ | with_reducible refine w_BM0 ?_ | with_reducible refine w_tyS ?_ | with_reducible refine w_sub ?_ | with_reducible refine w_for ?_ | with_reducible refine w_iList ?_ | with_reducible refine w_iTup ?_
  | with_reducible refine w_iRng1 ?_ | with_reducible refine w_iRng2 ?_ | with_reducible refine w_lc ?_ | with_reducible refine w_max2q ?_ | with_reducible refine w_min2q ?_ | with_reducible refine w_M1 ?_ | with_reducible refine w_M1s ?_
  | with_reducible refine w_ngetT ?_ | with_reducible refine w_nnotinT ?_ | with_reducible refine w_nputT ?_ | with_reducible refine w_dgetT ?_ | with_reducible refine w_dinT ?_ | with_reducible refine w_dnotinT ?_ | with_reducible refine w_dputT ?_
  | with_reducible refine w_sp0 ?_ | with_reducible refine w_sp1 ?_ | with_reducible refine w_sp2 ?_ | with_reducible refine w_sp3 ?_ | with_reducible refine w_sp4 ?_ | with_reducible refine w_sp5 ?_
  | with_reducible refine w_sm1 ?_ | with_reducible refine w_sm2 ?_ | with_reducible refine w_sm3 ?_ | with_reducible refine w_sm4 ?_ | with_reducible refine w_st1 ?_ | with_reducible refine w_st2 ?_ | with_reducible refine w_st3 ?_ | with_reducible refine w_sl ?_ | with_reducible refine w_part ?_ | with_reducible refine w_npart ?_ | with_reducible refine w_parti ?_))
def topS (i : Nat) : Stmt := PySem.Challenge.pw_hotmoves_k81_read_back.main.body.getD i (.Pass ⟨0, 0, 0, 0⟩)
/-- the built-in names that nobody took -/
structure Blt (mg : Str → Option Value) : Prop where
  k_len : mg "len" = none
  k_range : mg "range" = none
  k_sorted : mg "sorted" = none
  k_set : mg "set" = none
  k_tuple : mg "tuple" = none
  k_list : mg "list" = none
  k_isinstance : mg "isinstance" = none
  k_int : mg "int" = none
  k_bool : mg "bool" = none
  k_str : mg "str" = none
  k_max : mg "max" = none
  k_min : mg "min" = none
  k_ValueError : mg "ValueError" = none
/-- an own error class over ValueError, perhaps through own ones -/
structure Xc (K : PySem.W.Frag) (mg : Str → Option Value) (x : Str) (C : Addr) : Prop where
  gP : mg x = some (.ref C)
  xP : PySem.W.excIn K C [.type "ValueError", .type "Exception", .type "BaseException", .type "object"] "ValueError.__new__" = true
  kP : PySem.W.keepIn K (.ref C) = true
  bP : PySem.W.subIn K (.ref C) (.type "BaseException") = some true
  tP : PySem.W.typeIn K (.ref C) = some (.type "type")
theorem bb_len : bootBuiltins "len" = some (.builtin "len") := by decide +kernel
theorem bb_sorted : bootBuiltins "sorted" = some (.builtin "sorted") := by decide +kernel
theorem bb_isinstance : bootBuiltins "isinstance" = some (.builtin "isinstance") := by decide +kernel
theorem bb_max : bootBuiltins "max" = some (.builtin "max") := by decide +kernel
theorem bb_min : bootBuiltins "min" = some (.builtin "min") := by decide +kernel
theorem bb_set : bootBuiltins "set" = some (.type "set") := by decide +kernel
theorem bb_tuple : bootBuiltins "tuple" = some (.type "tuple") := by decide +kernel
theorem bb_list : bootBuiltins "list" = some (.type "list") := by decide +kernel
theorem bb_int : bootBuiltins "int" = some (.type "int") := by decide +kernel
theorem bb_bool : bootBuiltins "bool" = some (.type "bool") := by decide +kernel
theorem bb_str : bootBuiltins "str" = some (.type "str") := by decide +kernel
theorem bb_ValueError : bootBuiltins "ValueError" = some (.type "ValueError") := by decide +kernel

/-! ### the class Book -/
structure BkA where
  p : Addr
  mv : Addr
  nu : Addr
  de : Addr
def BkA.S (k : BkA) : List Addr := [k.mv, k.nu, k.de]
theorem BkA.off {k : BkA} {a : Addr} (h1 : a ≠ k.mv) (h2 : a ≠ k.nu) (h3 : a ≠ k.de) : a ∉ k.S := by
  unfold BkA.S
  simp only [List.mem_cons, List.not_mem_nil, or_false, not_or]
  exact ⟨h1, h2, h3⟩
def bfs (k : BkA) : List (Str × V) := [("moves", .ref k.mv), ("numbers", .ref k.nu), ("depths", .ref k.de)]
theorem bfs_mv (k : BkA) : (bfs k).lookup ("moves" : Str) = some (.ref k.mv) := by unfold bfs; simp [List.lookup]
theorem bfs_nu (k : BkA) : (bfs k).lookup ("numbers" : Str) = some (.ref k.nu) := by
  have e : (("numbers" : Str) == "moves") = false := by decide +kernel
  unfold bfs; simp [List.lookup, e]
theorem bfs_de (k : BkA) : (bfs k).lookup ("depths" : Str) = some (.ref k.de) := by
  have e1 : (("depths" : Str) == "moves") = false := by decide +kernel
  have e2 : (("depths" : Str) == "numbers") = false := by decide +kernel
  unfold bfs; simp [List.lookup, e1, e2]
theorem bfs_no (k : BkA) {m : Str} (h1 : (m == ("moves" : Str)) = false) (h2 : (m == ("numbers" : Str)) = false) (h3 : (m == ("depths" : Str)) = false) : (bfs k).lookup m = none := by
  unfold bfs; simp [List.lookup, h1, h2, h3]
def rKey (r : Row) : NK := .tup [nkInts (nI r.1), nkInts (nI r.2)]
theorem rKey_inj {r q : Row} (h : rKey r = rKey q) : r = q := by
  unfold rKey at h
  have h := NestedKey.tup.inj h
  simp only [List.cons.injEq, and_true] at h
  exact Prod.ext (nI_inj (nkInts_inj h.1)) (nI_inj (nkInts_inj h.2))
theorem rKey_depth (r : Row) : (rKey r).depth ≤ 8 := by
  show max (nkInts (nI r.1)).depth (max (nkInts (nI r.2)).depth 0) + 1 ≤ 8
  rw [depth_ints, depth_ints]; decide
structure RowAt (H : Hp) (r : Row) (t l q : Addr) : Prop where
  t : H t = some (.tup [.ref l, .ref q])
  l : H l = some (.tup (nV r.1))
  q : H q = some (.tup (nV r.2))
theorem RowAt.key {H : Hp} {r : Row} {t l q : Addr} (h : RowAt H r t l q) : NKey H (rKey r) (.ref t) :=
  .tup h.t (.cons (NKey.ints (by rw [← nV_eq]; exact h.l)) (.cons (NKey.ints (by rw [← nV_eq]; exact h.q)) .nil))
structure BookAt (P : Program) (w : World) (C : Addr) (H : Hp) (k : BkA) (B : Bk) : Prop where
  ok : OkB B
  obj : ∃ dx, H k.p = some (.ins C dx (bfs k))
  mvs : ∃ ms : List V, H k.mv = some (.lst ms) ∧ ms.length = B.length ∧ ∀ (i : Nat) (r : Row), B[i]? = some r → ∃ t l q, ms[i]? = some (.ref t) ∧ RowAt H r t l q
  nus : ∃ es : NEs, NkD P w H k.nu es ∧ es.length = B.length ∧ ∀ (i : Nat) (r : Row), B[i]? = some r → ∃ t, es[i]? = some (rKey r, t, .int (i : Int))
  des : H k.de = some (.lst (nV (evalB dpF 0 B)))
  ne : k.mv ≠ k.de
theorem ents_val (r : Row) : ∀ (B : Bk) (es : NEs) (o : Nat), es.length = B.length → (∀ (i : Nat) (q : Row), B[i]? = some q → ∃ t, es[i]? = some (rKey q, t, .int ((o + i : Nat) : Int))) → nkVal es (rKey r) = (find B r).map fun i => V.int ((o + i : Nat) : Int)
  | [], [], o, _, _ => rfl
  | [], _ :: _, _, h, _ => by simp at h
  | _ :: _, [], _, h, _ => by simp at h
  | q :: B, e :: es, o, hl, h => by
    obtain ⟨t, ht⟩ := h 0 q rfl
    have ht : e = (rKey q, t, .int ((o + 0 : Nat) : Int)) := Option.some.inj ht
    have ih := ents_val r B es (o + 1) (by simpa using hl) fun i q' hq => by
      obtain ⟨t', ht'⟩ := h (i + 1) q' hq
      refine ⟨t', ?_⟩
      have e2 : o + 1 + i = o + (i + 1) := by omega
      rw [e2]; exact ht'
    unfold nkVal find at *
    rw [List.find?_cons, List.idxOf?_cons]
    subst ht
    by_cases c : q = r
    · subst c
      simp
    · have c2 : ¬ rKey q = rKey r := fun z => c (rKey_inj z)
      have c3 : (q == r) = false := beq_eq_false_iff_ne.mpr c
      rw [decide_eq_false c2, c3]
      simp only [Bool.false_eq_true, if_false]
      rw [ih]
      cases List.idxOf? r B with
      | none => rfl
      | some i =>
        simp only [Option.map_some]
        have e2 : o + 1 + i = o + (i + 1) := by omega
        rw [e2]
theorem BookAt.fr {P : Program} {w : World} {C : Addr} {H H' : Hp} {k : BkA} {B : Bk} {S : List Addr} (b : BookAt P w C H k B) (f : Fr S H H') (d : ∀ a ∈ k.S, a ∉ S) : BookAt P w C H' k B := by
  obtain ⟨ms, h1, h2, h3⟩ := b.mvs
  obtain ⟨es, e1, e2, e3⟩ := b.nus
  refine ⟨b.ok, ?_, ⟨ms, f.kp _ _ h1 (d _ (by unfold BkA.S; simp)), h2, fun i r hr => ?_⟩, ⟨es, e1.fr f (d _ (by unfold BkA.S; simp)), e2, e3⟩, f.kp _ _ b.des (d _ (by unfold BkA.S; simp)), b.ne⟩
  · obtain ⟨dx, h⟩ := b.obj
    exact ⟨dx, f.ins h⟩
  · obtain ⟨t, l, q, a, c⟩ := h3 i r hr
    exact ⟨t, l, q, a, f.tup c.t, f.tup c.l, f.tup c.q⟩
theorem BookAt.fr0 {P : Program} {w : World} {C : Addr} {H H' : Hp} {k : BkA} {B : Bk} (b : BookAt P w C H k B) (f : Fr [] H H') : BookAt P w C H' k B := b.fr f fun _ _ z => nomatch z
/-- what is new, and what is no list and no dict of the book's kind, lies off the book -/
theorem BookAt.offN {P : Program} {w : World} {C : Addr} {H : Hp} {k : BkA} {B : Bk} (b : BookAt P w C H k B) {a : Addr} (h : H a = none) : a ∉ k.S := by
  obtain ⟨ms, h1, _⟩ := b.mvs
  obtain ⟨es, e1, _⟩ := b.nus
  exact BkA.off (fun z => by rw [z, h1] at h; cases h) (fun z => by rw [z, e1.at'] at h; cases h) (fun z => by rw [z, b.des] at h; cases h)
theorem BookAt.offK {P : Program} {w : World} {C : Addr} {H : Hp} {k : BkA} {B : Bk} (b : BookAt P w C H k B) {a : Addr} {kvs : List (Key × V)} (h : H a = some (.dK kvs)) : a ∉ k.S := by
  obtain ⟨ms, h1, _⟩ := b.mvs
  obtain ⟨es, e1, _⟩ := b.nus
  exact BkA.off (fun z => by rw [z, h1] at h; cases h) (fun z => by rw [z, e1.at'] at h; cases h) (fun z => by rw [z, b.des] at h; cases h)
structure BkT (K : PySem.W.Frag) (C : Addr) : Prop where
  cl : Cls K C
  nM : NoAttr K C "moves"
  nN : NoAttr K C "numbers"
  nD : NoAttr K C "depths"
theorem w_isi {K : PySem.W.Frag} {H : Hp} {Q : VK} {x c : V} {t u : Value} {b : Bool} (ty : TyX K H x t) (k : ClsV c u) (e : PySem.W.kitOne K t u = some b) (q : Q (.bl b) H) : rIsi K [x, c] H Q := ⟨x, c, t, u, b, rfl, k, ty, e, q⟩
theorem kit_ii {K : PySem.W.Frag} : PySem.W.kitOne K (.type "int") (.type "int") = some true := kit_ty (by decide +kernel)
theorem kit_ib {K : PySem.W.Frag} : PySem.W.kitOne K (.type "int") (.type "bool") = some false := kit_ty (by decide +kernel)
theorem kit_bi {K : PySem.W.Frag} : PySem.W.kitOne K (.type "bool") (.type "int") = some true := kit_ty (by decide +kernel)
theorem kit_bb {K : PySem.W.Frag} : PySem.W.kitOne K (.type "bool") (.type "bool") = some true := kit_ty (by decide +kernel)
theorem tyI {K : PySem.W.Frag} {H : Hp} {i : Int} : TyX K H (.int i) (.type "int") := .base (.int i)
theorem tyB {K : PySem.W.Frag} {H : Hp} {i : Bool} : TyX K H (.bl i) (.type "bool") := .base (.bl i)
/-- a field of the book -/
theorem w_bfld {K : PySem.W.Frag} {H : Hp} {C : Addr} {k : BkA} {f : Str} {v : V} {R : V → Prop} (o : ∃ dx, H k.p = some (.ins C dx (bfs k))) (c : Cls K C) (n : NoAttr K C f) (l : (bfs k).lookup f = some v) (q : R v) :
    ∃ a C dx fs v, V.ref k.p = .ref a ∧ H a = some (.ins C dx fs) ∧ Cls K C ∧ NoAttr K C f ∧ fs.lookup f = some v ∧ R v := by
  obtain ⟨dx, o⟩ := o
  exact ⟨k.p, C, dx, bfs k, v, rfl, o, c, n, l, q⟩
/-- a method of the book is called -/
theorem w_bmt {H : Hp} {C : Addr} {k : BkA} {m : Str} {R : Prop} (o : ∃ dx, H k.p = some (.ins C dx (bfs k))) (h1 : (m == ("moves" : Str)) = false) (h2 : (m == ("numbers" : Str)) = false) (h3 : (m == ("depths" : Str)) = false) (q : R) :
    ∃ a dx fs, V.ref k.p = .ref a ∧ H a = some (.ins C dx fs) ∧ fs.lookup m = none ∧ R := by
  obtain ⟨dx, o⟩ := o
  exact ⟨k.p, dx, bfs k, rfl, o, bfs_no k h1 h2 h3, q⟩
/-- no number of a game -/
def NoG (K : PySem.W.Frag) (H : Hp) (B : Bk) (g : V) : Prop := (∃ i : Int, g = .int i ∧ (i < 0 ∨ (B.length : Int) ≤ i)) ∨ (∃ b, g = .bl b) ∨ ∃ t, TyX K H g t ∧ PySem.W.kitOne K t (.type "int") = some false
section
variable (P : Program) (w : World) (K : PySem.W.Frag) (CB CE : Addr)
def cBookInit : P1 := fun self H Q _ => ∃ p dx, self = .ref p ∧ H p = some (.ins CB dx []) ∧ ∀ (k : BkA) (H' : Hp), k.p = p → BookAt P w CB H' k B0 → (∀ a ∈ k.S, H a = none) → (∀ a o, H a = some o → a ≠ p → H' a = some o) → (∀ a, H' a = none → H a = none) → Q .non H'
def cNeed : P2' := fun self g H Q E => ∃ k B, self = .ref k.p ∧ BookAt P w CB H k B ∧ B.length ≤ 1000000 ∧ ((∃ n : Nat, g = .int (n : Int) ∧ n < B.length ∧ Q .non H) ∨ (NoG K H B g ∧ E (.ref CE) none H))
def cSide (f : Row → List Nat) : P2' := fun self g H Q E => ∃ k B, self = .ref k.p ∧ BookAt P w CB H k B ∧ B.length ≤ 1000000 ∧
  ((∃ (n : Nat) (r : Row), g = .int (n : Int) ∧ B[n]? = some r ∧ ∀ p, H p = none → Q (.ref p) (upd H p (.lst (nV (f r))))) ∨ (NoG K H B g ∧ E (.ref CE) none H))
def cDepth : P2' := fun self g H Q E => ∃ k B, self = .ref k.p ∧ BookAt P w CB H k B ∧ B.length ≤ 1000000 ∧ ((∃ n : Nat, g = .int (n : Int) ∧ n < B.length ∧ Q (.int (dp B n : Nat)) H) ∨ (NoG K H B g ∧ E (.ref CE) none H))
def cMany : P1 := fun self H Q _ => ∃ k B, self = .ref k.p ∧ BookAt P w CB H k B ∧ Q (.int (B.length : Nat)) H
def cGame : P3' := fun self lefts rights H Q _ => ∃ k B la ra L R, self = .ref k.p ∧ lefts = .ref la ∧ rights = .ref ra ∧ BookAt P w CB H k B ∧ B.length < 1000000 ∧ SqL K H la (nV L) ∧ SqL K H ra (nV R) ∧ L.length ≤ 60 ∧ R.length ≤ 60 ∧ (∀ m ∈ L ++ R, m < B.length) ∧
  ∀ H', BookAt P w CB H' k (put B (nrm L, nrm R)).1 → Fr k.S H H' → Q (.int ((put B (nrm L, nrm R)).2 : Nat)) H'
end

theorem n_need : (("need" : Str) == ("moves" : Str)) = false ∧ (("need" : Str) == ("numbers" : Str)) = false ∧ (("need" : Str) == ("depths" : Str)) = false := by decide +kernel
section
variable {P : Program} {w : World} {K : PySem.W.Frag} {mg : Str → Option Value} {base : Heap} {CB CE : Addr}
abbrev s_Book_need : Stmt := inClass (topS 14) 1
theorem sc_Book_need : FnScope ["self", "g"] ["self", "g"] (defScope s_Book_need) := ⟨rfl, rfl, rfl, by decide +kernel, rfl, by decide +kernel, by decide +kernel⟩
theorem ok_need (B : Blt mg) (T : BkT K CB) (x_NoGame : Xc K mg "NoGame" CE) (S : SrcM K CB "need" "Book.need" s_Book_need ["self", "g"]) : MtOk P w K mg base (L2.CX P w) 1 CB "need" ["self", "g"] (sp2 (cNeed P w K CB CE)) := by
  refine S.okX sc_Book_need len2 fun f cdv A outer s H vs Q E hr h => ?_
  obtain ⟨self, g, rfl, k, Bo, rfl, b, hz, h⟩ := h
  have hu := hu_of hr
  have hu64 := hr.units
  refine ⟨_, (pss_one (ps_if (PW.pt (pw_or (pt_not (pt_val (pe_callB (cIsi K) (by rfl) B.k_isinstance bb_isinstance (pa_cons (pv 1) (pa_cons (pe_bltn (v := .ty "int") (by rfl) B.k_int bb_int rfl) pa_nil))))) (pw_or (pt_val (pe_callB (cIsi K) (by rfl) B.k_isinstance bb_isinstance (pa_cons (pv 1) (pa_cons (pe_bltn (v := .ty "bool") (by rfl) B.k_bool bb_bool rfl) pa_nil)))) (pw_or (pt_cmpR op_lt (pv 1) pe_int (nomark _)) (pw_or1 (pt_cmpR op_ge (pv 1) (pe_callB (cLen K) (by rfl) B.k_len bb_len (pa_cons (kFld K (pv 0)) pa_nil)) (nomark _)))))))
      (pss_one (ps_raise rfl (takes_of rfl rfl rfl rfl) (pmk_own PySem.F.excBase_ValueError x_NoGame.xP x_NoGame.gP x_NoGame.kP (raises_own x_NoGame.bP x_NoGame.tP) rfl)))
      pss_nil)), ?_⟩
  walk_at "st"
  obtain ⟨ms, m1, m2, _⟩ := b.mvs
  rcases h with ⟨n, rfl, hn, q⟩ | ⟨hg, q⟩
  · refine w_isi tyI (.ty _) kit_ii ?_
    walk_at "st"
    refine w_isi tyI (.ty _) kit_ib ?_
    walk_at "st"
    refine w_no (decide_eq_false (by omega)) ?_
    walk_at "st"
    refine w_bfld b.obj T.cl T.nM (bfs_mv k) ?_
    walk_at "st"
    refine w_lenL (SqL.of m1) ?_
    walk_at "st"
    rw [m2]
    refine w_no (decide_eq_false (by omega)) ?_
    walk_at "st"
    exact q
  · rcases hg with ⟨i, rfl, hi⟩ | ⟨bo, rfl⟩ | ⟨t, ty, ht⟩
    · refine w_isi tyI (.ty _) kit_ii ?_
      walk_at "st"
      refine w_isi tyI (.ty _) kit_ib ?_
      walk_at "st"
      refine w_dec (fun c => ?_) fun c => ?_
      · refine w_yes rfl ?_
        exact q
      · walk_at "st"
        refine w_bfld b.obj T.cl T.nM (bfs_mv k) ?_
        walk_at "st"
        refine w_lenL (SqL.of m1) ?_
        walk_at "st"
        rw [m2]
        refine w_yes (decide_eq_true (by omega)) ?_
        exact q
    · refine w_isi tyB (.ty _) kit_bi ?_
      walk_at "st"
      refine w_isi tyB (.ty _) kit_bb ?_
      walk_at "st"
      exact q
    · refine w_isi ty (.ty _) ht ?_
      walk_at "st"
      exact q
abbrev s_Book_lefts : Stmt := inClass (topS 14) 3
theorem sc_Book_lefts : FnScope ["self", "g"] ["self", "g"] (defScope s_Book_lefts) := ⟨rfl, rfl, rfl, by decide +kernel, rfl, by decide +kernel, by decide +kernel⟩
theorem ok_lefts (B : Blt mg) (T : BkT K CB) (d_Book_need : MtOk P w K mg base (L2.CX P w) 1 CB "need" ["self", "g"] (sp2 (cNeed P w K CB CE))) (S : SrcM K CB "lefts" "Book.lefts" s_Book_lefts ["self", "g"]) : MtOk P w K mg base (L2.CX P w) 2 CB "lefts" ["self", "g"] (sp2 (cSide P w K CB CE (·.1))) := by
  refine S.okX sc_Book_lefts len2 fun f cdv A outer s H vs Q E hr h => ?_
  obtain ⟨self, g, rfl, k, Bo, rfl, b, hz, h⟩ := h
  have hu := hu_of hr
  have hu64 := hr.units
  refine ⟨_, (pss_cons (ps_expr (pe_mt (pv 0) d_Book_need (hr.mono (by omega)) (passE (takes_of rfl rfl rfl rfl)) (pa_cons (pv 1) pa_nil)))
    (pss_one (ps_ret (pe_callTy (cListOf K) (by rfl) B.k_list bb_list (pa_cons (pe_ix (ixT K) (pe_ix (ixL K) (kFld K (pv 0)) (pv 1) (fun _ _ => rfl)) pe_int (fun _ _ => rfl)) pa_nil))))), ?_⟩
  walk_at "st"
  refine w_bmt b.obj n_need.1 n_need.2.1 n_need.2.2 ?_
  walk_at "st"
  refine ⟨k, Bo, rfl, b, hz, ?_⟩
  rcases h with ⟨n, r, rfl, hn, q⟩ | ⟨hg, q⟩
  · refine .inl ⟨n, rfl, (List.getElem?_eq_some_iff.mp hn).1, ?_⟩
    walk_at "st"
    obtain ⟨ms, m1, m2, m3⟩ := b.mvs
    obtain ⟨t, l, y, a1, a2⟩ := m3 n r hn
    refine w_bfld b.obj T.cl T.nM (bfs_mv k) ?_
    walk_at "st"
    refine w_ixL (SqL.of m1) (atI_nat a1) ?_
    walk_at "st"
    refine w_ixT (SqT.of a2.t) (atI_nat (j := 0) rfl) ?_
    walk_at "st"
    refine w_listT (SqT.of a2.l) ?_
    exact q
  · exact .inr ⟨hg, q⟩
abbrev s_Book_rights : Stmt := inClass (topS 14) 4
theorem sc_Book_rights : FnScope ["self", "g"] ["self", "g"] (defScope s_Book_rights) := ⟨rfl, rfl, rfl, by decide +kernel, rfl, by decide +kernel, by decide +kernel⟩
theorem ok_rights (B : Blt mg) (T : BkT K CB) (d_Book_need : MtOk P w K mg base (L2.CX P w) 1 CB "need" ["self", "g"] (sp2 (cNeed P w K CB CE))) (S : SrcM K CB "rights" "Book.rights" s_Book_rights ["self", "g"]) : MtOk P w K mg base (L2.CX P w) 2 CB "rights" ["self", "g"] (sp2 (cSide P w K CB CE (·.2))) := by
  refine S.okX sc_Book_rights len2 fun f cdv A outer s H vs Q E hr h => ?_
  obtain ⟨self, g, rfl, k, Bo, rfl, b, hz, h⟩ := h
  have hu := hu_of hr
  have hu64 := hr.units
  refine ⟨_, (pss_cons (ps_expr (pe_mt (pv 0) d_Book_need (hr.mono (by omega)) (passE (takes_of rfl rfl rfl rfl)) (pa_cons (pv 1) pa_nil)))
    (pss_one (ps_ret (pe_callTy (cListOf K) (by rfl) B.k_list bb_list (pa_cons (pe_ix (ixT K) (pe_ix (ixL K) (kFld K (pv 0)) (pv 1) (fun _ _ => rfl)) pe_int (fun _ _ => rfl)) pa_nil))))), ?_⟩
  walk_at "st"
  refine w_bmt b.obj n_need.1 n_need.2.1 n_need.2.2 ?_
  walk_at "st"
  refine ⟨k, Bo, rfl, b, hz, ?_⟩
  rcases h with ⟨n, r, rfl, hn, q⟩ | ⟨hg, q⟩
  · refine .inl ⟨n, rfl, (List.getElem?_eq_some_iff.mp hn).1, ?_⟩
    walk_at "st"
    obtain ⟨ms, m1, m2, m3⟩ := b.mvs
    obtain ⟨t, l, y, a1, a2⟩ := m3 n r hn
    refine w_bfld b.obj T.cl T.nM (bfs_mv k) ?_
    walk_at "st"
    refine w_ixL (SqL.of m1) (atI_nat a1) ?_
    walk_at "st"
    refine w_ixT (SqT.of a2.t) (atI_nat (j := 1) rfl) ?_
    walk_at "st"
    refine w_listT (SqT.of a2.q) ?_
    exact q
  · exact .inr ⟨hg, q⟩
abbrev s_Book_depth : Stmt := inClass (topS 14) 5
theorem sc_Book_depth : FnScope ["self", "g"] ["self", "g"] (defScope s_Book_depth) := ⟨rfl, rfl, rfl, by decide +kernel, rfl, by decide +kernel, by decide +kernel⟩
theorem ok_depth (B : Blt mg) (T : BkT K CB) (d_Book_need : MtOk P w K mg base (L2.CX P w) 1 CB "need" ["self", "g"] (sp2 (cNeed P w K CB CE))) (S : SrcM K CB "depth" "Book.depth" s_Book_depth ["self", "g"]) : MtOk P w K mg base (L2.CX P w) 2 CB "depth" ["self", "g"] (sp2 (cDepth P w K CB CE)) := by
  refine S.okX sc_Book_depth len2 fun f cdv A outer s H vs Q E hr h => ?_
  obtain ⟨self, g, rfl, k, Bo, rfl, b, hz, h⟩ := h
  have hu := hu_of hr
  have hu64 := hr.units
  refine ⟨_, (pss_cons (ps_expr (pe_mt (pv 0) d_Book_need (hr.mono (by omega)) (passE (takes_of rfl rfl rfl rfl)) (pa_cons (pv 1) pa_nil)))
    (pss_one (ps_ret (pe_ix (ixL K) (kFld K (pv 0)) (pv 1) (fun _ _ => rfl))))), ?_⟩
  walk_at "st"
  refine w_bmt b.obj n_need.1 n_need.2.1 n_need.2.2 ?_
  walk_at "st"
  refine ⟨k, Bo, rfl, b, hz, ?_⟩
  rcases h with ⟨n, rfl, hn, q⟩ | ⟨hg, q⟩
  · refine .inl ⟨n, rfl, hn, ?_⟩
    walk_at "st"
    refine w_bfld b.obj T.cl T.nD (bfs_de k) ?_
    walk_at "st"
    refine w_ixL (SqL.of b.des) (atI_nat (v := .int (dp Bo n : Nat)) ?_) q
    unfold nV
    rw [List.getElem?_map, evalB_get dpF 0 hn]
    rfl
  · exact .inr ⟨hg, q⟩
abbrev s_Book_many : Stmt := inClass (topS 14) 6
theorem sc_Book_many : FnScope ["self"] ["self"] (defScope s_Book_many) := ⟨rfl, rfl, rfl, by decide +kernel, rfl, by decide +kernel, by decide +kernel⟩
theorem ok_many (B : Blt mg) (T : BkT K CB) (S : SrcM K CB "many" "Book.many" s_Book_many ["self"]) : MtOk P w K mg base CX0 1 CB "many" ["self"] (sp1 (cMany P w CB)) := by
  refine S.ok sc_Book_many len1 fun f cdv A outer s H vs Q E hr h => ?_
  obtain ⟨self, rfl, k, Bo, rfl, b, q⟩ := h
  have hu := hu_of hr
  have hu64 := hr.units
  refine ⟨_, (pss_one (ps_ret (pe_callB (cLen K) (by rfl) B.k_len bb_len (pa_cons (kFld K (pv 0)) pa_nil)))), ?_⟩
  walk_at "st"
  obtain ⟨ms, m1, m2, _⟩ := b.mvs
  refine w_bfld b.obj T.cl T.nM (bfs_mv k) ?_
  walk_at "st"
  refine w_lenL (SqL.of m1) ?_
  rw [m2]
  exact q
end

section
variable {P : Program} {w : World} {K : PySem.W.Frag} {mg : Str → Option Value} {base : Heap} {CB CE : Addr}
theorem put_none {B : Bk} {r : Row} (h : find B r = none) : put B r = (B ++ [r], B.length) := by unfold put; rw [h]
theorem put_some {B : Bk} {r : Row} {i : Nat} (h : find B r = some i) : put B r = (B, i) := by unfold put; rw [h]
abbrev s_Book_game : Stmt := inClass (topS 14) 2
theorem sc_Book_game : FnScope ["self", "lefts", "rights", "g", "key"] ["self", "lefts", "rights"] (defScope s_Book_game) := ⟨rfl, rfl, rfl, by decide +kernel, rfl, by decide +kernel, by decide +kernel⟩
theorem ok_game (B : Blt mg) (T : BkT K CB) (d_Book_need : MtOk P w K mg base (L2.CX P w) 1 CB "need" ["self", "g"] (sp2 (cNeed P w K CB CE))) (S : SrcM K CB "game" "Book.game" s_Book_game ["self", "lefts", "rights"]) : MtOk P w K mg base (L2.CX P w) 2 CB "game" ["self", "lefts", "rights"] (sp3 (cGame P w K CB)) := by
  refine S.okX sc_Book_game len3 fun f cdv A outer s H vs Q E hr h => ?_
  obtain ⟨self, lefts, rights, rfl, k, Bo, la, ra, L, R, rfl, rfl, rfl, b, hz, hl, hr', zl, zr, lo, q⟩ := h
  have hu := hu_of hr
  have hu64 := hr.units
  refine ⟨_, (pss_cons (ps_for (passes_of rfl) rfl (iL K (pe_op op_cat (pe_callTy (cListOf K) (by rfl) B.k_list bb_list (pa_cons (pv 1) pa_nil)) (pe_callTy (cListOf K) (by rfl) B.k_list bb_list (pa_cons (pv 2) pa_nil)))) (pg_name (i := 3) sc_Book_game.nd rfl (Or.inl rfl))
      (pss_one (ps_expr (pe_mt (pv 0) d_Book_need (hr.mono (by omega)) (passE (takes_of rfl rfl rfl rfl)) (pa_cons (pv 3) pa_nil)))))
    (pss_cons (ps_set (i := 4) sc_Book_game.nd rfl (Or.inl rfl) (pe_tup (pa_cons (pe_callTy (cTupOf K) (by rfl) B.k_tuple bb_tuple (pa_cons (pe_callB (cSortSet w) (by rfl) B.k_sorted bb_sorted (pa_cons (pe_callTy (cSetI K w) (by rfl) B.k_set bb_set (pa_cons (pv 1) pa_nil)) pa_nil)) pa_nil)) (pa_cons (pe_callTy (cTupOf K) (by rfl) B.k_tuple bb_tuple (pa_cons (pe_callB (cSortSet w) (by rfl) B.k_sorted bb_sorted (pa_cons (pe_callTy (cSetI K w) (by rfl) B.k_set bb_set (pa_cons (pv 2) pa_nil)) pa_nil)) pa_nil)) pa_nil))))
    (pss_cons (ps_if (pt_cmp (kNNotIn P w hu64 (pv 4) (kFld K (pv 0))))
      (pss_cons (kNPut P w hu64 (kFld K (pv 0)) (pv 4) (pe_callB (cLen K) (by rfl) B.k_len bb_len (pa_cons (kFld K (pv 0)) pa_nil)))
      (pss_cons (ps_expr (kBM K PySem.F.plainAttrs_list PySem.F.slot_list_append PySem.F.type_list_append mt_append (kFld K (pv 0)) (pa_cons (pv 4) pa_nil)))
      (pss_one (ps_expr (kBM K PySem.F.plainAttrs_list PySem.F.slot_list_append PySem.F.type_list_append mt_append (kFld K (pv 0)) (pa_cons (pe_op op_add pe_int (pe_callB (cMax K) (by rfl) B.k_max bb_max (pa_cons (pe_lc (own := [("g", 3)]) (g := gName 3) (tt := tYes) rfl sc_Book_game.nd (iT K (pe_op (oCatA K) (pe_ix (ixT K) (pv 4) pe_int (fun _ _ => rfl)) (pe_ix (ixT K) (pv 4) pe_int (fun _ _ => rfl)))) (blkOk_by (N := ["self", "lefts", "rights", "g", "key"]) (sc := defScope s_Book_game) (by decide +kernel)) (fun _ _ _ _ _ => by exact (pg_name (i := 3) sc_Book_game.nd rfl (Or.inl rfl))) (fun _ _ _ _ _ => by exact pts_nil) (fun _ _ _ _ _ => by exact (pe_ix (ixL K) (kFld K (pv 0)) (pv 3) (fun _ _ => rfl)))) pa_nil))) pa_nil))))))
      pss_nil)
    (pss_one (ps_ret (kNGet P w hu64 (kFld K (pv 0)) (pv 4) (fun _ _ => rfl))))))), ?_⟩
  walk_at "st"
  -- list(lefts) + list(rights)
  refine w_listL hl ?_
  intro l1 n_l1
  have f_l1 : Fr [] H (upd H l1 (.lst (nV L))) := Fr.new n_l1
  have h_l1 : (upd H l1 (.lst (nV L))) l1 = some (.lst (nV L)) := upd_same
  generalize upd H l1 (.lst (nV L)) = H1 at *
  walk_at "st"
  refine w_listL (f_l1.seqL (by simp) hr') ?_
  intro l2 n_l2
  have f_l2 : Fr [] H1 (upd H1 l2 (.lst (nV R))) := Fr.new n_l2
  have h_l2 : (upd H1 l2 (.lst (nV R))) l2 = some (.lst (nV R)) := upd_same
  generalize upd H1 l2 (.lst (nV R)) = H2 at *
  refine w_cat (f_l2.kp _ _ h_l1 (by simp)) h_l2 (by rw [nV_len, nV_len, sizeLine_eq]; omega) ?_
  intro l3 n_l3
  have f_l3 : Fr [] H2 (upd H2 l3 (.lst (nV L ++ nV R))) := Fr.new n_l3
  have h_l3 : (upd H2 l3 (.lst (nV L ++ nV R))) l3 = some (.lst (nV L ++ nV R)) := upd_same
  generalize upd H2 l3 (.lst (nV L ++ nV R)) = H3 at *
  have f3 := (f_l1.trans f_l2).trans f_l3
  have b3 := b.fr0 f3
  -- each is a game
  refine f_list (SqL.of h_l3) (fun i σ H' => (∃ v, σ = [some (V.ref k.p), some (V.ref la), some (V.ref ra), v, none]) ∧ H' = H3) ⟨⟨_, rfl⟩, rfl⟩ (fun i σ H' _ p => by rw [p.2]; exact SqL.of h_l3) ?_ ?_
  · rintro i x σ H' hx ⟨⟨v, rfl⟩, rfl⟩
    obtain ⟨m, hm, rfl⟩ : ∃ m : Nat, m ∈ L ++ R ∧ x = .int (m : Int) := by
      have e : nV L ++ nV R = nV (L ++ R) := by unfold nV; rw [List.map_append]
      rw [e] at hx
      obtain ⟨m, h1, h2⟩ := nV_get hx
      exact ⟨m, List.mem_of_getElem? h1, h2⟩
    walk_at "st"
    refine w_bmt b3.obj n_need.1 n_need.2.1 n_need.2.2 ?_
    walk_at "st"
    exact ⟨k, Bo, rfl, b3, by omega, .inl ⟨m, rfl, lo m hm, ⟨some (.int m), rfl⟩, rfl⟩⟩
  rintro σ Hx ⟨⟨v, rfl⟩, hx⟩
  rw [hx]
  clear hx Hx
  -- key
  walk_at "st"
  refine w_setI (ns := nI L) (by rw [← nV_eq]; exact f3.seqL (by simp) hl) (by unfold nI; rw [List.length_map]; omega) fun p4 c4 n4 hc4 => ?_
  walk_at "st"
  refine w_sortedSet upd_same hc4 fun ms p5 hms n5 => ?_
  rw [isSet_nrm hms, ← nV_eq]
  walk_at "st"
  refine w_tupL (SqL.of upd_same) fun p6 n6 => ?_
  walk_at "st"
  have f6 := ((Fr.new (S := []) (o := SetO w p4 (fun j => decide (j ∈ nI L)) c4) n4).trans (Fr.new (o := .lst (nV (nrm L))) n5)).trans (Fr.new (o := .tup (nV (nrm L))) n6)
  have h6 : (upd (upd (upd H3 p4 (SetO w p4 (fun j => decide (j ∈ nI L)) c4)) p5 (.lst (nV (nrm L)))) p6 (.tup (nV (nrm L)))) p6 = some (.tup (nV (nrm L))) := upd_same
  generalize upd (upd (upd H3 p4 (SetO w p4 (fun j => decide (j ∈ nI L)) c4)) p5 (.lst (nV (nrm L)))) p6 (.tup (nV (nrm L))) = H6 at *
  refine w_setI (ns := nI R) (by rw [← nV_eq]; exact (f3.trans f6).seqL (by simp) hr') (by unfold nI; rw [List.length_map]; omega) fun p7 c7 n7 hc7 => ?_
  walk_at "st"
  refine w_sortedSet upd_same hc7 fun ms2 p8 hms2 n8 => ?_
  rw [isSet_nrm hms2, ← nV_eq]
  walk_at "st"
  refine w_tupL (SqL.of upd_same) fun p9 n9 => ?_
  walk_at "st"
  have f9 := ((Fr.new (S := []) (o := SetO w p7 (fun j => decide (j ∈ nI R)) c7) n7).trans (Fr.new (o := .lst (nV (nrm R))) n8)).trans (Fr.new (o := .tup (nV (nrm R))) n9)
  have h9 : (upd (upd (upd H6 p7 (SetO w p7 (fun j => decide (j ∈ nI R)) c7)) p8 (.lst (nV (nrm R)))) p9 (.tup (nV (nrm R)))) p9 = some (.tup (nV (nrm R))) := upd_same
  generalize upd (upd (upd H6 p7 (SetO w p7 (fun j => decide (j ∈ nI R)) c7)) p8 (.lst (nV (nrm R)))) p9 (.tup (nV (nrm R))) = H9 at *
  intro p10 n_p10
  have f_p10 : Fr [] H9 (upd H9 p10 (.tup [.ref p6, .ref p9])) := Fr.new n_p10
  have h_p10 : (upd H9 p10 (.tup [.ref p6, .ref p9])) p10 = some (.tup [.ref p6, .ref p9]) := upd_same
  generalize upd H9 p10 (.tup [.ref p6, .ref p9]) = H10 at *
  have f10 := ((f3.trans f6).trans f9).trans f_p10
  have r10 : RowAt H10 (nrm L, nrm R) p10 p6 p9 := ⟨h_p10, f_p10.tup (f9.tup h6), f_p10.tup h9⟩
  have b10 := b.fr0 f10
  clear f3 f6 f9 h6 h9 b3 n4 n5 n6 n7 n8 n9
  walk_at "st"
  refine w_bfld b10.obj T.cl T.nN (bfs_nu k) ?_
  obtain ⟨es, e1, e2, e3⟩ := b10.nus
  refine w_nin e1 r10.key (rKey_depth _) ?_
  walk_at "st"
  have ev := ents_val (nrm L, nrm R) Bo es 0 e2 (fun i r hr => by obtain ⟨t, ht⟩ := e3 i r hr; exact ⟨t, by rw [Nat.zero_add]; exact ht⟩)
  have fits : Fits Bo (nrm L, nrm R) := ⟨⟨nrm_srt L, nrm_srt R⟩, fun m hm => lo m (by
    rcases List.mem_append.mp hm with h | h
    · exact List.mem_append_left _ (mem_nrm.mp h)
    · exact List.mem_append_right _ (mem_nrm.mp h))⟩
  cases fd : find Bo (nrm L, nrm R) with
  | some i =>
    -- there
    rw [fd] at ev
    simp only [Option.map_some, Nat.zero_add] at ev
    rw [ev]
    refine w_no rfl ?_
    walk_at "st"
    refine w_bfld b10.obj T.cl T.nN (bfs_nu k) ?_
    walk_at "st"
    refine w_nget e1 r10.key (rKey_depth _) ev ?_
    rw [put_some fd] at q
    exact q H10 b10 f10.of0
  | none =>
    rw [fd] at ev
    simp only [Option.map_none] at ev
    rw [ev]
    refine w_yes rfl ?_
    walk_at "st"
    obtain ⟨ms3, m1, m2, m3⟩ := b10.mvs
    refine w_bfld b10.obj T.cl T.nM (bfs_mv k) ?_
    walk_at "st"
    refine w_lenL (SqL.of m1) ?_
    walk_at "st"
    refine w_bfld b10.obj T.cl T.nN (bfs_nu k) ?_
    walk_at "st"
    refine w_nput e1 r10.key (rKey_depth _) (by rw [e2, sizeLine_eq]; omega) ?_
    have e4 := e1.put (v := .int ((ms3.length : Nat) : Int)) r10.key (rKey_depth _)
    have in1 : k.nu ∈ k.S := by unfold BkA.S; simp
    have in2 : k.mv ∈ k.S := by unfold BkA.S; simp
    have in3 : k.de ∈ k.S := by unfold BkA.S; simp
    have f11 := (f10.of0 (S := k.S)).at (o := .ext (NkR P w k.nu (nkPut es (rKey (nrm L, nrm R)) p10 (.int ((ms3.length : Nat) : Int))))) in1 e1.at' rfl
    have neM : k.mv ≠ k.nu := ne_of m1 e1.at' (by intro z; cases z)
    have neD : k.de ≠ k.nu := ne_of b10.des e1.at' (by intro z; cases z)
    have m1' : (upd H10 k.nu (.ext (NkR P w k.nu (nkPut es (rKey (nrm L, nrm R)) p10 (.int ((ms3.length : Nat) : Int)))))) k.mv = some (.lst ms3) := by rw [upd_ne neM]; exact m1
    have d1 : (upd H10 k.nu (.ext (NkR P w k.nu (nkPut es (rKey (nrm L, nrm R)) p10 (.int ((ms3.length : Nat) : Int)))))) k.de = some (.lst (nV (evalB dpF 0 Bo))) := by rw [upd_ne neD]; exact b10.des
    have g11 := Fr.at (Fr.refl [k.nu] H10) (o := .ext (NkR P w k.nu (nkPut es (rKey (nrm L, nrm R)) p10 (.int ((ms3.length : Nat) : Int))))) (by simp) e1.at' rfl
    generalize upd H10 k.nu (.ext (NkR P w k.nu (nkPut es (rKey (nrm L, nrm R)) p10 (.int ((ms3.length : Nat) : Int))))) = H11 at *
    obtain ⟨dx, ob⟩ := b10.obj
    have ob11 := g11.ins ob
    walk_at "st"
    refine w_bfld ⟨dx, ob11⟩ T.cl T.nM (bfs_mv k) ?_
    refine w_tyL (SqL.of m1') ?_
    walk_at "st"
    refine w_append m1' (by rw [m2, sizeLine_eq]; omega) ?_
    have f12 := f11.at (o := .lst (ms3 ++ [.ref p10])) in2 m1' rfl
    have g12 := Fr.at (Fr.refl [k.mv] H11) (o := .lst (ms3 ++ [.ref p10])) (by simp) m1' rfl
    have m12 : (upd H11 k.mv (.lst (ms3 ++ [.ref p10]))) k.mv = some (.lst (ms3 ++ [.ref p10])) := upd_same
    have d12 : (upd H11 k.mv (.lst (ms3 ++ [.ref p10]))) k.de = some (.lst (nV (evalB dpF 0 Bo))) := by rw [upd_ne b.ne.symm]; exact d1
    generalize upd H11 k.mv (.lst (ms3 ++ [.ref p10])) = H12 at *
    have ob12 := g12.ins ob11
    walk_at "st"
    refine w_bfld ⟨dx, ob12⟩ T.cl T.nD (bfs_de k) ?_
    refine w_tyL (SqL.of d12) ?_
    walk_at "st"
    have r12 : RowAt H12 (nrm L, nrm R) p10 p6 p9 := ⟨g12.tup (g11.tup r10.t), g12.tup (g11.tup r10.l), g12.tup (g11.tup r10.q)⟩
    refine w_ixT (SqT.of r12.t) (atI_nat (j := 0) rfl) ?_
    walk_at "st"
    refine w_ixT (SqT.of r12.t) (atI_nat (j := 1) rfl) ?_
    refine w_catA (SqT.of r12.l) (SqT.of r12.q) (by rw [nV_len, nV_len]; show (nrm L).length + (nrm R).length ≤ _; have h1 := nrm_len L; have h2 := nrm_len R; rw [sizeLine_eq]; omega) fun p13 H13 f13 h13 => ?_
    have ecat : nV (nrm L) ++ nV (nrm R) = nV (nrm L ++ nrm R) := by unfold nV; rw [List.map_append]
    have h13 : SqT K H13 p13 (nV (nrm L ++ nrm R)) := by rw [← ecat]; exact h13
    have cl : (nrm L ++ nrm R).length ≤ 120 := by rw [List.length_append]; have h1 := nrm_len L; have h2 := nrm_len R; omega
    refine c_tup h13 (fun D i H' => H13 D = none ∧ Fr [] H13 H' ∧ H' D = some (.lst (nV (((nrm L ++ nrm R).take i).map (dp Bo))))) (fun D H' n g e => ⟨n, g, e⟩) (fun D i H' _ p => p.2.1.seqT h13) ?_ ?_
    · rintro D i x H' hx ⟨nD, g, e⟩
      obtain ⟨m, hm, rfl⟩ := nV_get hx
      have hmB : m < Bo.length := fits.low m (List.mem_of_getElem? hm)
      walk_at "st"
      refine w_bfld ⟨dx, g.ins (f13.ins ob12)⟩ T.cl T.nD (bfs_de k) ?_
      walk_at "st"
      have d13 : H' k.de = some (.lst (nV (evalB dpF 0 Bo))) := g.kp _ _ (f13.kp _ _ d12 (by simp)) (by simp)
      refine w_ixL (SqL.of d13) (atI_nat (v := .int (dp Bo m : Nat)) (by unfold nV; rw [List.getElem?_map, evalB_get dpF 0 hmB]; rfl)) ?_
      refine ⟨_, e, ?_, nD, g.put nD, ?_⟩
      · rw [nV_len, List.length_map, List.length_take, sizeLine_eq]; omega
      · rw [upd_same, List.take_add_one, hm]
        unfold nV
        simp
    rintro D H14 nD ⟨_, g, e⟩
    rw [nV_len, List.take_length, nV_eq] at e
    have ne0 : (nrm L ++ nrm R) ≠ [] := fun z => by
      have z1 : (nrm L, nrm R) = (([] : List Nat), ([] : List Nat)) := by
        have := List.append_eq_nil_iff.mp z
        rw [this.1, this.2]
      rw [z1, find_of b.ok.nd b.ok.zero] at fd
      cases fd
    walk_at "st"
    refine w_max (SqL.of e) (by unfold nI; rw [List.length_map, List.length_map]; exact List.length_pos_iff.mpr ne0) fun m hm1 hm2 => ?_
    walk_at "st"
    have hd : ∃ z : Nat, m = (z : Int) ∧ z + 1 = dpF ((nrm L).map (dp Bo)) ((nrm R).map (dp Bo)) := by
      obtain ⟨z, hz1, hz2⟩ := foldr_max_in (l := (nrm L).map (dp Bo) ++ (nrm R).map (dp Bo)) (by rw [← List.map_append]; intro y; exact ne0 (List.map_eq_nil_iff.mp y))
      obtain ⟨z', hz', e'⟩ := List.mem_map.mp hm1
      refine ⟨z, ?_, hz2.symm⟩
      have l1 : z' + 1 ≤ z + 1 := by
        rw [← hz2]
        refine foldr_max_le ?_
        rw [← List.map_append]; exact hz'
      have l2 := hm2 (z : Int) (List.mem_map.mpr ⟨z, by rw [List.map_append]; exact hz1, rfl⟩)
      omega
    obtain ⟨z, rfl, hz⟩ := hd
    have f14 := f13.trans g
    have d14 := f14.kp _ _ d12 (by simp)
    refine w_append d14 (by rw [nV_len, evalB_len, sizeLine_eq]; omega) ?_
    have f15 := (f12.trans f14.of0).at (o := .lst (nV (evalB dpF 0 Bo) ++ [.int (1 + (z : Int))])) in3 d14 rfl
    have g15 := Fr.at (Fr.refl [k.de] H14) (o := .lst (nV (evalB dpF 0 Bo) ++ [.int (1 + (z : Int))])) (by simp) d14 rfl
    have d15 : (upd H14 k.de (.lst (nV (evalB dpF 0 Bo) ++ [.int (1 + (z : Int))]))) k.de = some (.lst (nV (evalB dpF 0 Bo) ++ [.int (1 + (z : Int))])) := upd_same
    generalize upd H14 k.de (.lst (nV (evalB dpF 0 Bo) ++ [.int (1 + (z : Int))])) = H15 at *
    have e5 := (((e4.fr g12 (by simpa using neM.symm)).fr f14 (by simp)).fr g15 (by simpa using neD.symm))
    have ob15 := g15.ins (f14.ins ob12)
    rw [put_none fd] at q
    walk_at "st"
    refine w_bfld ⟨dx, ob15⟩ T.cl T.nN (bfs_nu k) ?_
    walk_at "st"
    have k15 : NKey H15 (rKey (nrm L, nrm R)) (.ref p10) := (RowAt.key ⟨g15.tup (f14.tup r12.t), g15.tup (f14.tup r12.l), g15.tup (f14.tup r12.q)⟩)
    refine w_nget e5 k15 (rKey_depth _) (v := .int ((Bo.length : Nat) : Int)) (by rw [nkVal_put, if_pos rfl, m2]) ?_
    refine q H15 ⟨?_, ⟨dx, ob15⟩, ⟨ms3 ++ [.ref p10], ?_, ?_, ?_⟩, ⟨_, e5, ?_, ?_⟩, ?_, b.ne⟩ f15
    · have := put_ok b.ok fits; rw [put_none fd] at this; exact this
    · exact g15.kp _ _ (f14.kp _ _ m12 (by simp)) (by simpa using b.ne)
    · rw [List.length_append, List.length_append, m2]; rfl
    · intro i r hr
      by_cases hi : i < Bo.length
      · rw [List.getElem?_append_left hi] at hr
        obtain ⟨t, l, y, a1, a2⟩ := m3 i r hr
        exact ⟨t, l, y, by rw [List.getElem?_append_left (by rw [m2]; exact hi)]; exact a1, (g15.tup (f14.tup (g12.tup (g11.tup a2.t)))), (g15.tup (f14.tup (g12.tup (g11.tup a2.l)))), (g15.tup (f14.tup (g12.tup (g11.tup a2.q))))⟩
      · have hl1 : i < (Bo ++ [(nrm L, nrm R)]).length := (List.getElem?_eq_some_iff.mp hr).1
        rw [List.length_append, List.length_singleton] at hl1
        have ei : i = Bo.length := by omega
        subst ei
        rw [List.getElem?_append_right (Nat.le_refl _), Nat.sub_self] at hr
        have er : (nrm L, nrm R) = r := Option.some.inj hr
        subst er
        exact ⟨p10, p6, p9, by rw [List.getElem?_append_right (by rw [m2]; exact Nat.le_refl _), m2, Nat.sub_self]; rfl, g15.tup (f14.tup r12.t), g15.tup (f14.tup r12.l), g15.tup (f14.tup r12.q)⟩
    · rw [nkPut_new ev, List.length_append, List.length_append, e2]; rfl
    · intro i r hr
      rw [nkPut_new ev]
      by_cases hi : i < Bo.length
      · rw [List.getElem?_append_left hi] at hr
        obtain ⟨t, ht⟩ := e3 i r hr
        exact ⟨t, by rw [List.getElem?_append_left (by rw [e2]; exact hi)]; exact ht⟩
      · have hl1 : i < (Bo ++ [(nrm L, nrm R)]).length := (List.getElem?_eq_some_iff.mp hr).1
        rw [List.length_append, List.length_singleton] at hl1
        have ei : i = Bo.length := by omega
        subst ei
        rw [List.getElem?_append_right (Nat.le_refl _), Nat.sub_self] at hr
        have er : (nrm L, nrm R) = r := Option.some.inj hr
        subst er
        exact ⟨p10, by rw [List.getElem?_append_right (by rw [e2]; exact Nat.le_refl _), e2, Nat.sub_self, m2]; rfl⟩
    · rw [d15, evalB_snoc]
      have e6 : ∀ l : List Nat, l.map (fun m => (evalB dpF 0 Bo).getD m 0) = l.map (dp Bo) := fun l => rfl
      rw [e6, e6, ← hz]
      unfold nV
      rw [List.map_append]
      simp only [List.map_cons, List.map_nil]
      rw [show ((z + 1 : Nat) : Int) = 1 + (z : Int) by omega]
structure FrX (p : Addr) (H H' : Hp) : Prop where
  kp : ∀ a o, H a = some o → a ≠ p → H' a = some o
  fr : ∀ a, H' a = none → H a = none
theorem FrX.of {p : Addr} {H H' : Hp} (f : Fr [] H H') : FrX p H H' := ⟨fun a o h _ => f.kp a o h (by simp), f.fr⟩
theorem FrX.at {p : Addr} {H : Hp} {o u : HO} (h : H p = some u) : FrX p H (upd H p o) := ⟨fun a v e n => by rw [upd_ne n]; exact e, fun a e => by
    by_cases q : a = p
    · rw [q, upd_same] at e; cases e
    · rw [upd_ne q] at e; exact e⟩
theorem FrX.trans {p : Addr} {H H1 H2 : Hp} (a : FrX p H H1) (b : FrX p H1 H2) : FrX p H H2 := ⟨fun x o h n => b.kp x o (a.kp x o h n) n, fun x h => a.fr x (b.fr x h)⟩
abbrev s_Book_init : Stmt := inClass (topS 14) 0
theorem sc_Book_init : FnScope ["self"] ["self"] (defScope s_Book_init) := ⟨rfl, rfl, rfl, by decide +kernel, rfl, by decide +kernel, by decide +kernel⟩
theorem ok_Book (B : Blt mg) (T : BkT K CB) (S : SrcI K mg CB "Book" "Book.__init__" s_Book_init ["self"]) : MkOk P w K mg base CX0 1 CB "Book" ["self"] (sp1 (cBookInit P w CB)) := by
  refine S.ok sc_Book_init len1 fun f cdv A outer s H vs Q E hr h => ?_
  obtain ⟨self, rfl, p, dx, rfl, hp, q⟩ := h
  have hu := hu_of hr
  have hu64 := hr.units
  refine ⟨_, (pss_cons (kSFld K (pv 0) (pe_lst (pa_cons (pe_tup (pa_cons (pe_tup pa_nil) (pa_cons (pe_tup pa_nil) pa_nil))) pa_nil)))
    (pss_cons (kSFld K (pv 0) (kNDisp P w hu64 (pe_tup (pa_cons (pe_tup pa_nil) (pa_cons (pe_tup pa_nil) pa_nil))) pe_int))
    (pss_one (kSFld K (pv 0) (pe_lst (pa_cons pe_int pa_nil)))))), ?_⟩
  walk_at "st"
  intro a1 n_a1
  have f_a1 : Fr [] H (upd H a1 (.tup [])) := Fr.new n_a1
  have h_a1 : (upd H a1 (.tup [])) a1 = some (.tup []) := upd_same
  generalize upd H a1 (.tup []) = H1 at *
  walk_at "st"
  intro a2 n_a2
  have f_a2 : Fr [] H1 (upd H1 a2 (.tup [])) := Fr.new n_a2
  have h_a2 : (upd H1 a2 (.tup [])) a2 = some (.tup []) := upd_same
  generalize upd H1 a2 (.tup []) = H2 at *
  walk_at "st"
  intro a3 n_a3
  have f_a3 : Fr [] H2 (upd H2 a3 (.tup [.ref a1, .ref a2])) := Fr.new n_a3
  have h_a3 : (upd H2 a3 (.tup [.ref a1, .ref a2])) a3 = some (.tup [.ref a1, .ref a2]) := upd_same
  generalize upd H2 a3 (.tup [.ref a1, .ref a2]) = H3 at *
  walk_at "st"
  intro a4 n_a4
  have f_a4 : Fr [] H3 (upd H3 a4 (.lst [.ref a3])) := Fr.new n_a4
  have h_a4 : (upd H3 a4 (.lst [.ref a3])) a4 = some (.lst [.ref a3]) := upd_same
  generalize upd H3 a4 (.lst [.ref a3]) = H4 at *
  walk_at "st"
  have f4 := ((f_a1.trans f_a2).trans f_a3).trans f_a4
  have hp4 := f4.ins hp
  have npa : ∀ a, H a = none → a ≠ p := fun a h => (ne_of_none hp h).symm
  refine ⟨p, CB, dx, [], rfl, hp4, T.cl, T.nM, Nat.le_of_ble_eq_true rfl, ?_⟩
  have g5 : FrX p H4 (upd H4 p (.ins CB dx (putF "moves" (.ref a4) []))) := FrX.at hp4
  have hp5 : (upd H4 p (.ins CB dx (putF "moves" (.ref a4) []))) p = some (.ins CB dx (putF "moves" (.ref a4) [])) := upd_same
  generalize upd H4 p (.ins CB dx (putF "moves" (.ref a4) [])) = H5 at *
  walk_at "st"
  refine w_ndisp ?_
  intro d n_d
  have f_d : Fr [] H5 (upd H5 d (.ext (NkR P w d []))) := Fr.new n_d
  have h_d : (upd H5 d (.ext (NkR P w d []))) d = some (.ext (NkR P w d [])) := upd_same
  generalize upd H5 d (.ext (NkR P w d [])) = H6 at *
  walk_at "st"
  intro c1 n_c1
  have f_c1 : Fr [] H6 (upd H6 c1 (.tup [])) := Fr.new n_c1
  have h_c1 : (upd H6 c1 (.tup [])) c1 = some (.tup []) := upd_same
  generalize upd H6 c1 (.tup []) = H7 at *
  walk_at "st"
  intro c2 n_c2
  have f_c2 : Fr [] H7 (upd H7 c2 (.tup [])) := Fr.new n_c2
  have h_c2 : (upd H7 c2 (.tup [])) c2 = some (.tup []) := upd_same
  generalize upd H7 c2 (.tup []) = H8 at *
  walk_at "st"
  intro c3 n_c3
  have f_c3 : Fr [] H8 (upd H8 c3 (.tup [.ref c1, .ref c2])) := Fr.new n_c3
  have h_c3 : (upd H8 c3 (.tup [.ref c1, .ref c2])) c3 = some (.tup [.ref c1, .ref c2]) := upd_same
  generalize upd H8 c3 (.tup [.ref c1, .ref c2]) = H9 at *
  walk_at "st"
  have f9 := (f_c1.trans f_c2).trans f_c3
  have hd9 := f9.kp _ _ h_d (by simp)
  have r9 : RowAt H9 ([], []) c3 c1 c2 := ⟨h_c3, f_c3.tup (f_c2.tup h_c1), f_c3.tup h_c2⟩
  refine ⟨c3, _, rfl, hd9, r9.key, rKey_depth _, ?_⟩
  have f10 : Fr [d] H9 (upd H9 d (.ext (NkR P w d [(rKey ([], []), c3, .int 0)]))) := Fr.at (Fr.refl _ _) (by simp) hd9 rfl
  have n10 : NkD P w (upd H9 d (.ext (NkR P w d [(rKey ([], []), c3, .int 0)]))) d [(rKey ([], []), c3, .int 0)] := ⟨upd_same, fun e he => by
    simp only [List.mem_singleton] at he
    subst he
    exact ⟨RowAt.key ⟨f10.tup r9.t, f10.tup r9.l, f10.tup r9.q⟩, rKey_depth _⟩⟩
  generalize upd H9 d (.ext (NkR P w d [(rKey ([], []), c3, .int 0)])) = H10 at *
  have hp10 := f10.ins (f9.ins (f_d.ins hp5))
  walk_at "st"
  refine ⟨p, CB, dx, _, rfl, hp10, T.cl, T.nN, Nat.le_of_ble_eq_true rfl, ?_⟩
  have g11 : FrX p H10 (upd H10 p (.ins CB dx (putF "numbers" (.ref d) (putF "moves" (.ref a4) [])))) := FrX.at hp10
  have hp11 : (upd H10 p (.ins CB dx (putF "numbers" (.ref d) (putF "moves" (.ref a4) [])))) p = some (.ins CB dx (putF "numbers" (.ref d) (putF "moves" (.ref a4) []))) := upd_same
  generalize upd H10 p (.ins CB dx (putF "numbers" (.ref d) (putF "moves" (.ref a4) []))) = H11 at *
  walk_at "st"
  intro e n_e
  have f_e : Fr [] H11 (upd H11 e (.lst [.int 0])) := Fr.new n_e
  have h_e : (upd H11 e (.lst [.int 0])) e = some (.lst [.int 0]) := upd_same
  generalize upd H11 e (.lst [.int 0]) = H12 at *
  walk_at "st"
  have hp12 := f_e.ins hp11
  refine ⟨p, CB, dx, _, rfl, hp12, T.cl, T.nD, Nat.le_of_ble_eq_true rfl, ?_⟩
  have g13 : FrX p H12 (upd H12 p (.ins CB dx (putF "depths" (.ref e) (putF "numbers" (.ref d) (putF "moves" (.ref a4) []))))) := FrX.at hp12
  have hp13 : (upd H12 p (.ins CB dx (putF "depths" (.ref e) (putF "numbers" (.ref d) (putF "moves" (.ref a4) []))))) p = some (.ins CB dx (putF "depths" (.ref e) (putF "numbers" (.ref d) (putF "moves" (.ref a4) [])))) := upd_same
  generalize upd H12 p (.ins CB dx (putF "depths" (.ref e) (putF "numbers" (.ref d) (putF "moves" (.ref a4) [])))) = H13 at *
  walk_at "st"
  -- who is where
  have nd4 : H4 d = none := g5.fr _ n_d
  have nd : H d = none := f4.fr _ nd4
  have x13 : FrX p H10 H13 := (g11.trans (FrX.of f_e)).trans g13
  have ne9 : H10 e = none := g11.fr _ n_e
  have ne4 : H4 e = none := g5.fr _ (f_d.fr _ (f9.fr _ (f10.fr _ ne9)))
  have ne0 : H e = none := f4.fr _ ne4
  have na1 : H a1 = none := n_a1
  have na2 : H a2 = none := f_a1.fr _ n_a2
  have na3 : H a3 = none := f_a1.fr _ (f_a2.fr _ n_a3)
  have na4 : H a4 = none := f_a1.fr _ (f_a2.fr _ (f_a3.fr _ n_a4))
  have nc1 : H c1 = none := f4.fr _ (g5.fr _ (f_d.fr _ n_c1))
  have nc2 : H c2 = none := f4.fr _ (g5.fr _ (f_d.fr _ (f_c1.fr _ n_c2)))
  have nc3 : H c3 = none := f4.fr _ (g5.fr _ (f_d.fr _ (f_c1.fr _ (f_c2.fr _ n_c3))))
  have t4 : ∀ a o, H4 a = some o → a ≠ p → a ≠ d → H13 a = some o := fun a o h n1 n2 => x13.kp _ _ (f10.kp _ _ (f9.kp _ _ (f_d.kp _ _ (g5.kp _ _ h n1) (by simp)) (by simp)) (by simpa using n2)) n1
  have s1 := f_a4.kp _ _ (f_a3.kp _ _ (f_a2.kp _ _ h_a1 (by simp)) (by simp)) (by simp)
  have s2 := f_a4.kp _ _ (f_a3.kp _ _ h_a2 (by simp)) (by simp)
  have s3 := f_a4.kp _ _ h_a3 (by simp)
  have wq : ∀ {a : Addr} {o : HO}, H4 a = some o → a ≠ d := fun h => ne_of_none h nd4
  refine q ⟨p, a4, d, e⟩ H13 rfl ⟨okB0, ⟨dx, ?_⟩, ⟨[.ref a3], t4 _ _ h_a4 (npa _ na4) (wq h_a4), rfl, ?_⟩, ⟨[(rKey ([], []), c3, .int 0)], n10.mono (x13.kp _ _ n10.at' (npa _ nd)) ?_, rfl, ?_⟩, ?_, ?_⟩ ?_ ?_ ?_
  · exact hp13
  · intro i r hr
    match i, hr with
    | 0, hr =>
      have hr : ([], []) = r := Option.some.inj hr
      subst hr
      exact ⟨a3, a1, a2, rfl, t4 _ _ s3 (npa _ na3) (wq s3), t4 _ _ s1 (npa _ na1) (wq s1), t4 _ _ s2 (npa _ na2) (wq s2)⟩
    | i + 1, hr => cases hr
  · intro a xs h
    exact x13.kp _ _ h (fun z => by subst z; rw [hp10] at h; cases h)
  · intro i r hr
    match i, hr with
    | 0, hr =>
      have hr : ([], []) = r := Option.some.inj hr
      subst hr
      exact ⟨c3, rfl⟩
    | i + 1, hr => cases hr
  · exact g13.kp _ _ h_e (npa _ ne0)
  · exact ne_of_none h_a4 ne4
  · intro a ha
    unfold BkA.S at ha
    simp only [List.mem_cons, List.not_mem_nil, or_false] at ha
    rcases ha with rfl | rfl | rfl
    · exact na4
    · exact nd
    · exact ne0
  · intro a o h n
    exact t4 _ _ (f4.kp _ _ h (by simp)) n (ne_of_none h nd)
  · intro a h
    exact f4.fr _ (g5.fr _ (f_d.fr _ (f9.fr _ (f10.fr _ (x13.fr _ h)))))
end

/-! ### reached -/

section
variable {P : Program} {w : World} {K : PySem.W.Frag} {mg : Str → Option Value} {base : Heap} {CB CE : Addr}
theorem n_dlr : (("depth" : Str) == ("moves" : Str)) = false ∧ (("depth" : Str) == ("numbers" : Str)) = false ∧ (("depth" : Str) == ("depths" : Str)) = false := by decide +kernel
theorem n_lef : (("lefts" : Str) == ("moves" : Str)) = false ∧ (("lefts" : Str) == ("numbers" : Str)) = false ∧ (("lefts" : Str) == ("depths" : Str)) = false := by decide +kernel
theorem n_rig : (("rights" : Str) == ("moves" : Str)) = false ∧ (("rights" : Str) == ("numbers" : Str)) = false ∧ (("rights" : Str) == ("depths" : Str)) = false := by decide +kernel
def cReached (P : Program) (w : World) (K : PySem.W.Frag) (CB CE : Addr) : P2' := fun bk g H Q E => ∃ k B, bk = .ref k.p ∧ BookAt P w CB H k B ∧ B.length ≤ 63 ∧
  ((∃ n : Nat, g = .int (n : Int) ∧ n < B.length ∧ ∀ ms p H', Reach B n ms → Fr [] H H' → H p = none → H' p = some (.lst (nV ms)) → Q (.ref p) H') ∨ (NoG K H B g ∧ E (.ref CE) none H))
abbrev s_reached : Stmt := topS 1
theorem sc_reached : FnScope ["book", "g", "found", "waiting", "here", "move"] ["book", "g"] (defScope s_reached) := ⟨rfl, rfl, rfl, by decide +kernel, rfl, by decide +kernel, by decide +kernel⟩
theorem ok_reached (B : Blt mg) (T : BkT K CB) (d_Book_depth : MtOk P w K mg base (L2.CX P w) 2 CB "depth" ["self", "g"] (sp2 (cDepth P w K CB CE))) (d_Book_lefts : MtOk P w K mg base (L2.CX P w) 2 CB "lefts" ["self", "g"] (sp2 (cSide P w K CB CE (·.1)))) (d_Book_rights : MtOk P w K mg base (L2.CX P w) 2 CB "rights" ["self", "g"] (sp2 (cSide P w K CB CE (·.2)))) (S : Src K mg "reached" s_reached ["book", "g"]) : DefOk P w K mg base (L2.CX P w) 3 "reached" ["book", "g"] (sp2 (cReached P w K CB CE)) := by
  refine S.okX sc_reached len2 fun f cdv A outer s H vs Q E hr h => ?_
  obtain ⟨self, g, rfl, k, Bo, rfl, b, hz, h⟩ := h
  have hu := hu_of hr
  have hu64 := hr.units
  refine ⟨_, (pss_cons (ps_expr (pe_mt (pv 0) d_Book_depth (hr.mono (by omega)) (passE (takes_of rfl rfl rfl rfl)) (pa_cons (pv 1) pa_nil)))
    (pss_cons (ps_set (i := 2) sc_reached.nd rfl (Or.inl rfl) (pe_disp (pps_cons (pv 1) pe_bl pps_nil) (by rfl) (by rfl) (by intro z; cases z) (by decide)))
    (pss_cons (ps_set (i := 3) sc_reached.nd rfl (Or.inl rfl) (pe_lst (pa_cons (pv 1) pa_nil)))
    (pss_cons (ps_while (passes_of rfl) (pt_cmpR (oNeD K hu64) (pv 3) (pe_lst pa_nil) (nomark _))
      (pss_cons (ps_set (i := 4) sc_reached.nd rfl (Or.inl rfl) (kBM0 K PySem.F.plainAttrs_list PySem.F.slot_list_pop PySem.F.type_list_pop mt_pop (pv 3)))
      (pss_one (ps_for (passes_of rfl) rfl (iL K (pe_op op_cat (pe_mt (pv 0) d_Book_lefts (hr.mono (by omega)) (passE (takes_of rfl rfl rfl rfl)) (pa_cons (pv 4) pa_nil)) (pe_mt (pv 0) d_Book_rights (hr.mono (by omega)) (passE (takes_of rfl rfl rfl rfl)) (pa_cons (pv 4) pa_nil)))) (pg_name (i := 5) sc_reached.nd rfl (Or.inl rfl))
        (pss_one (ps_if (pt_cmp (pc_dnotin hu (pv 5) (pv 2)))
          (pss_cons (ps_dput hu (pv 2) (pv 5) pe_bl rfl)
          (pss_one (ps_expr (kBM K PySem.F.plainAttrs_list PySem.F.slot_list_append PySem.F.type_list_append mt_append (pv 3) (pa_cons (pv 5) pa_nil)))))
          pss_nil))))))
    (pss_one (ps_ret (pe_callB (call_sortedDI rfl) (by rfl) B.k_sorted bb_sorted (pa_cons (pv 2) pa_nil)))))))), ?_⟩
  walk_at "st"
  refine w_bmt b.obj n_dlr.1 n_dlr.2.1 n_dlr.2.2 ?_
  walk_at "st"
  rcases h with ⟨n, rfl, hn, q⟩ | ⟨hg, q⟩
  rotate_left
  · exact ⟨k, Bo, rfl, b, by omega, .inr ⟨hg, q⟩⟩
  refine ⟨k, Bo, rfl, b, by omega, .inl ⟨n, rfl, hn, ?_⟩⟩
  walk_at "st"
  refine w_disp fun fd n_fd => ?_
  refine w_pair ?_
  walk_at "st"
  refine w_pair0 ⟨upd_same, [(Sum.inl (n : Int), .bl true)], rfl, Nat.le_of_ble_eq_true rfl, ?_⟩
  have f1 : Fr [] H (upd (upd H fd (.dK [])) fd (.dK (mergeK [] [(Sum.inl (n : Int), .bl true)]))) := (Fr.new n_fd).put n_fd
  have h1 : (upd (upd H fd (.dK [])) fd (.dK (mergeK [] [(Sum.inl (n : Int), .bl true)]))) fd = some (.dK (fD [n])) := upd_same
  generalize upd (upd H fd (.dK [])) fd (.dK (mergeK [] [(Sum.inl (n : Int), .bl true)])) = H1 at *
  walk_at "st"
  intro wl n_wl
  have f_wl : Fr [] H1 (upd H1 wl (.lst [.int (n : Int)])) := Fr.new n_wl
  have h_wl : (upd H1 wl (.lst [.int (n : Int)])) wl = some (.lst [.int (n : Int)]) := upd_same
  generalize upd H1 wl (.lst [.int (n : Int)]) = H2 at *
  walk_at "st"
  have f2 := f1.trans f_wl
  have h2 := f_wl.kp _ _ h1 (by simp)
  have nwl := f1.fr _ n_wl
  have ne : fd ≠ wl := ne_of_none h1 n_wl
  refine f_while (fun m σ' H' => ∃ F W x y, σ' = [some (.ref k.p), some (.int (n : Int)), some (.ref fd), some (.ref wl), x, y] ∧ RInv Bo n (fun _ => False) F W ∧ Fr [] H H' ∧ H' fd = some (.dK (fD F)) ∧ H' wl = some (.lst (nV W)) ∧ m = 2 * (Bo.length - F.length) + W.length ∧ m ≤ 200) (2 * (Bo.length - 1) + 1) ⟨[n], [n], _, _, rfl, .one hn, f2, h2, h_wl, rfl, by omega⟩ ?_
  rintro m0 σ' H' ⟨F, W, x, y, rfl, iv, g, hF, hW, em, e200⟩
  walk_at "st"
  intro e n_e
  have f_e : Fr [] H' (upd H' e (.lst [])) := Fr.new n_e
  have h_e : (upd H' e (.lst [])) e = some (.lst []) := upd_same
  generalize upd H' e (.lst []) = H3 at *
  have g3 := g.trans f_e
  have hF3 := f_e.kp _ _ hF (by simp)
  have hW3 := f_e.kp _ _ hW (by simp)
  walk_at "st"
  refine w_neNil (SqL.of hW3) (SqL.of h_e) ?_
  walk_at "st"
  rcases List.eq_nil_or_concat W with rfl | ⟨W', h0, rfl⟩
  · -- none waits
    refine w_no rfl ?_
    walk_at "st"
    refine ⟨fd, fD F, nI F, rfl, .inl hF3, fD_keys F, by unfold nI; rw [List.length_map]; have := iv.len; omega, fun ys p hy hs np => ?_⟩
    obtain ⟨ms, rfl, hp, hs2⟩ := perm_nat hy hs
    rw [← nV_eq]
    exact q ms p _ (iv.fin hp hs2) (g3.trans (Fr.new np)) (g3.fr _ np) upd_same
  · rw [List.concat_eq_append] at *
    refine w_yes (by simp) ?_
    refine w_turn ?_
    walk_at "st"
    have eW : nV (W' ++ [h0]) = nV W' ++ [.int (h0 : Int)] := by unfold nV; rw [List.map_append]; rfl
    refine w_tyL (SqL.of hW3) ⟨wl, _, .int (h0 : Int), rfl, rfl, hW3, ?_, ?_⟩
    · rw [eW, List.length_append, List.length_singleton, Nat.add_sub_cancel, List.getElem?_append_right (Nat.le_refl _), Nat.sub_self]; rfl
    rw [eW, List.dropLast_concat]
    have g4 := g3.put (o := .lst (nV W')) nwl
    have hF4 : (upd H3 wl (.lst (nV W'))) fd = some (.dK (fD F)) := by rw [upd_ne ne]; exact hF3
    have hW4 : (upd H3 wl (.lst (nV W'))) wl = some (.lst (nV W')) := upd_same
    generalize upd H3 wl (.lst (nV W')) = H4 at *
    walk_at "st"
    have in0 : h0 ∈ F := iv.wf h0 (by simp)
    have lt0 : h0 < Bo.length := iv.low h0 in0
    obtain ⟨r, hr0⟩ : ∃ r, Bo[h0]? = some r := ⟨Bo[h0], List.getElem?_eq_getElem lt0⟩
    have b4 := b.fr0 g4
    refine w_bmt b4.obj n_lef.1 n_lef.2.1 n_lef.2.2 ?_
    walk_at "st"
    refine ⟨k, Bo, rfl, b4, by omega, .inl ⟨h0, r, rfl, hr0, ?_⟩⟩
    intro l5 n_l5
    have f_l5 : Fr [] H4 (upd H4 l5 (.lst (nV r.1))) := Fr.new n_l5
    have h_l5 : (upd H4 l5 (.lst (nV r.1))) l5 = some (.lst (nV r.1)) := upd_same
    generalize upd H4 l5 (.lst (nV r.1)) = H5 at *
    walk_at "st"
    have b5 := b4.fr0 f_l5
    refine w_bmt b5.obj n_rig.1 n_rig.2.1 n_rig.2.2 ?_
    walk_at "st"
    refine ⟨k, Bo, rfl, b5, by omega, .inl ⟨h0, r, rfl, hr0, ?_⟩⟩
    intro l6 n_l6
    have f_l6 : Fr [] H5 (upd H5 l6 (.lst (nV r.2))) := Fr.new n_l6
    have h_l6 : (upd H5 l6 (.lst (nV r.2))) l6 = some (.lst (nV r.2)) := upd_same
    generalize upd H5 l6 (.lst (nV r.2)) = H6 at *
    walk_at "st"
    have low0 := b.ok.low h0 r hr0
    have sr := b.ok.srt r (List.mem_of_getElem? hr0)
    have le1 : r.1.length ≤ h0 := nodup_len _ _ (sr.1.imp fun h => Nat.ne_of_lt h) fun m hm => low0 m (List.mem_append_left _ hm)
    have le2 : r.2.length ≤ h0 := nodup_len _ _ (sr.2.imp fun h => Nat.ne_of_lt h) fun m hm => low0 m (List.mem_append_right _ hm)
    refine w_cat (f_l6.kp _ _ h_l5 (by simp)) h_l6 (by rw [nV_len, nV_len, sizeLine_eq]; omega) ?_
    intro l7 n_l7
    have f_l7 : Fr [] H6 (upd H6 l7 (.lst (nV r.1 ++ nV r.2))) := Fr.new n_l7
    have h_l7 : (upd H6 l7 (.lst (nV r.1 ++ nV r.2))) l7 = some (.lst (nV r.1 ++ nV r.2)) := upd_same
    generalize upd H6 l7 (.lst (nV r.1 ++ nV r.2)) = H7 at *
    have f7 := (f_l5.trans f_l6).trans f_l7
    have e7 : nV r.1 ++ nV r.2 = nV (mvs Bo h0) := by rw [mvs_at hr0]; unfold nV; rw [List.map_append]
    rw [e7] at h_l7
    have g7 := g4.trans f7
    have n7 : H wl = none := nwl
    refine f_list (SqL.of h_l7) (fun i σ H' => ∃ F W y, σ = [some (.ref k.p), some (.int (n : Int)), some (.ref fd), some (.ref wl), some (.int (h0 : Int)), y] ∧ RInv Bo n (fun m => m = h0) F W ∧ h0 ∈ F ∧ (∀ j ∈ (mvs Bo h0).take i, j ∈ F) ∧ Fr [] H H' ∧ H' l7 = some (.lst (nV (mvs Bo h0))) ∧ H' fd = some (.dK (fD F)) ∧ H' wl = some (.lst (nV W)) ∧ 2 * (Bo.length - F.length) + W.length < m0)
      ⟨F, W', _, rfl, iv.pop, in0, by simp, g7, h_l7, f7.kp _ _ hF4 (by simp), f7.kp _ _ hW4 (by simp), ?_⟩ (fun i σ H' _ ⟨_, _, _, _, _, _, _, _, e, _⟩ => SqL.of e) ?_ ?_
    · rw [em, List.length_append, List.length_singleton]; omega
    · have nf7 : fd ≠ l7 := ne_of_none (f_l6.kp _ _ (f_l5.kp _ _ hF4 (by simp)) (by simp)) n_l7
      have nw7 : wl ≠ l7 := ne_of_none (f_l6.kp _ _ (f_l5.kp _ _ hW4 (by simp)) (by simp)) n_l7
      rintro i x σ H' hx ⟨F, W, y, rfl, iv, in0, hc, g, hl, hF, hW, hm⟩
      obtain ⟨j, hj, rfl⟩ := nV_get hx
      have jm : j ∈ mvs Bo h0 := List.mem_of_getElem? hj
      have jl : j < Bo.length := by
        have := low0 j (by rw [mvs_at hr0] at jm; exact jm)
        omega
      walk_at "st"
      refine w_din (k := Sum.inl (j : Int)) hF ?_
      rw [fD_val]
      walk_at "st"
      by_cases c : j ∈ F
      · rw [decide_eq_true c]
        refine w_no rfl ?_
        walk_at "st"
        refine ⟨F, W, _, rfl, iv, in0, fun m hm => ?_, g, hl, hF, hW, hm⟩
        rw [List.take_add_one, hj] at hm
        rcases List.mem_append.mp hm with q | q
        · exact hc m q
        · rw [List.mem_singleton.mp q]; exact c
      · rw [decide_eq_false c]
        refine w_yes rfl ?_
        walk_at "st"
        refine w_dput (k := Sum.inl (j : Int)) hF (by rw [fD_len, sizeLine_eq]; have := iv.len; omega) ?_
        rw [fD_put F j c]
        have g2 := g.put (o := .dK (fD (F ++ [j]))) n_fd
        have hl2 : (upd H' fd (.dK (fD (F ++ [j])))) l7 = some (.lst (nV (mvs Bo h0))) := by rw [upd_ne nf7.symm]; exact hl
        have hF2 : (upd H' fd (.dK (fD (F ++ [j])))) fd = some (.dK (fD (F ++ [j]))) := upd_same
        have hW2 : (upd H' fd (.dK (fD (F ++ [j])))) wl = some (.lst (nV W)) := by rw [upd_ne ne.symm]; exact hW
        generalize upd H' fd (.dK (fD (F ++ [j]))) = H8 at *
        walk_at "st"
        have iv2 := iv.add in0 jm jl c
        have lF := iv2.len
        rw [List.length_append, List.length_singleton] at lF
        refine w_tyL (SqL.of hW2) ?_
        walk_at "st"
        refine w_append hW2 (by rw [nV_len, sizeLine_eq]; omega) ?_
        walk_at "st"
        refine ⟨F ++ [j], W ++ [j], _, rfl, iv2, List.mem_append_left _ in0, fun m hm => ?_, g2.put nwl, ?_, ?_, ?_, ?_⟩
        · rw [List.take_add_one, hj] at hm
          rcases List.mem_append.mp hm with q | q
          · exact List.mem_append_left _ (hc m q)
          · exact List.mem_append_right _ q
        · rw [upd_ne nw7.symm]; exact hl2
        · rw [upd_ne ne]; exact hF2
        · rw [upd_same]; unfold nV; rw [List.map_append]; rfl
        · simp only [List.length_append, List.length_singleton]; omega
    · rintro σ H' ⟨F, W, y, rfl, iv, in0, hc, g, hl, hF, hW, hm⟩
      rw [List.take_of_length_le (by rw [nV_len]; exact Nat.le_refl _)] at hc
      exact ⟨_, hm, F, W, _, _, rfl, iv.end hc, g, hF, hW, rfl, by omega⟩
end

/-! ### show -/

section
variable {P : Program} {w : World} {K : PySem.W.Frag} {mg : Str → Option Value} {base : Heap} {CB CE : Addr}
def cShow (P : Program) (w : World) (K : PySem.W.Frag) (CB CE : Addr) : P2' := fun bk g H Q E => ∃ k B, bk = .ref k.p ∧ BookAt P w CB H k B ∧ B.length ≤ 63 ∧ (∀ m, m < B.length → (tx B m).length ≤ 100000) ∧
  ((∃ n : Nat, g = .int (n : Int) ∧ n < B.length ∧ ∀ H', Fr [] H H' → Q (.str (tx B n)) H') ∨ (NoG K H B g ∧ ∀ H', Fr [] H H' → E (.ref CE) none H'))
theorem tyof_fr {H H' : Hp} {x : V} {t : Value} (h : TyOf K H x t) (f : Fr [] H H') : TyOf K H' x t := by
  have k : ∀ a o, H a = some o → H' a = some o := fun a o e => f.kp a o e (by simp)
  cases h with
  | non => exact .non
  | bl x => exact .bl x
  | int i => exact .int i
  | str x => exact .str x
  | flt x => exact .flt x
  | lst e => exact .lst (k _ _ e)
  | frz e => exact .frz (k _ _ e)
  | tup e => exact .tup (k _ _ e)
  | dK e => exact .dK (k _ _ e)
  | dT e => exact .dT (k _ _ e)
  | ins e cl ha hn htk hm => exact .ins (k _ _ e) cl ha hn htk hm
theorem tyx_fr {H H' : Hp} {x : V} {t : Value} (h : TyX K H x t) (f : Fr [] H H') : TyX K H' x t := by
  have k : ∀ a o, H a = some o → H' a = some o := fun a o e => f.kp a o e (by simp)
  cases h with
  | base b => exact .base (tyof_fr b f)
  | byt b => exact .byt b
  | set e => exact .set (k _ _ e)
  | kList e c => exact .kList e c
  | kTuple e c => exact .kTuple e c
  | kDict e c => exact .kDict e c
  | fTuple e => exact .fTuple (k _ _ e)
  | fDict e => exact .fDict (k _ _ e)
theorem NoG.fr {H H' : Hp} {B : Bk} {g : V} (h : NoG K H B g) (f : Fr [] H H') : NoG K H' B g := by
  rcases h with h | h | ⟨t, a, b⟩
  · exact .inl h
  · exact .inr (.inl h)
  · exact .inr (.inr ⟨t, tyx_fr a f, b⟩)
abbrev s_show : Stmt := topS 8
theorem sc_show : FnScope ["book", "g", "texts", "here", "lefts", "rights", "move"] ["book", "g"] (defScope s_show) := ⟨rfl, rfl, rfl, by decide +kernel, rfl, by decide +kernel, by decide +kernel⟩
theorem ok_show (B : Blt mg) (T : BkT K CB) (d_Book_lefts : MtOk P w K mg base (L2.CX P w) 2 CB "lefts" ["self", "g"] (sp2 (cSide P w K CB CE (·.1)))) (d_Book_rights : MtOk P w K mg base (L2.CX P w) 2 CB "rights" ["self", "g"] (sp2 (cSide P w K CB CE (·.2)))) (d_reached : DefOk P w K mg base (L2.CX P w) 3 "reached" ["book", "g"] (sp2 (cReached P w K CB CE))) (S : Src K mg "show" s_show ["book", "g"]) : DefOk P w K mg base (L2.CX P w) 4 "show" ["book", "g"] (sp2 (cShow P w K CB CE)) := by
  refine S.okX sc_show len2 fun f cdv A outer s H vs Q E hr h => ?_
  obtain ⟨self, g, rfl, k, Bo, rfl, b, hz, hlen, h⟩ := h
  have hu := hu_of hr
  have hu64 := hr.units
  refine ⟨_, (pss_cons (ps_set (i := 2) sc_show.nd rfl (Or.inr rfl) (pe_disp (pps_cons pe_int pe_str pps_nil) (by rfl) (by rfl) (by intro z; cases z) (by decide)))
    (pss_cons (ps_for (passes_of rfl) rfl (iL K (pe_fn d_reached (hr.mono (by omega)) (passE (takes_of rfl rfl rfl rfl)) (pa_cons (pv 0) (pa_cons (pv 1) pa_nil)))) (pg_name (i := 3) sc_show.nd rfl (Or.inl rfl))
      (pss_one (ps_if (pt_cmpR op_ne (pv 3) pe_int (nomark _))
        (pss_cons (ps_set (i := 4) sc_show.nd rfl (Or.inl rfl) (pe_callB (cSortS K) (by rfl) B.k_sorted bb_sorted (pa_cons (pe_lc (own := [("move", 6)]) (g := gName 6) (tt := tYes) rfl sc_show.nd (iL K (pe_mt (pv 0) d_Book_lefts (hr.mono (by omega)) (passE (takes_of rfl rfl rfl rfl)) (pa_cons (pv 3) pa_nil))) (blkOk_by (N := ["book", "g", "texts", "here", "lefts", "rights", "move"]) (sc := defScope s_show) (by decide +kernel)) (fun _ _ _ _ _ => by exact (pg_name (i := 6) sc_show.nd rfl (Or.inl rfl))) (fun _ _ _ _ _ => by exact pts_nil) (fun _ _ _ _ _ => by exact (pe_dget hu (pv 2) (pv 6) (fun _ _ => rfl)))) pa_nil)))
        (pss_cons (ps_set (i := 5) sc_show.nd rfl (Or.inl rfl) (pe_callB (cSortS K) (by rfl) B.k_sorted bb_sorted (pa_cons (pe_lc (own := [("move", 6)]) (g := gName 6) (tt := tYes) rfl sc_show.nd (iL K (pe_mt (pv 0) d_Book_rights (hr.mono (by omega)) (passE (takes_of rfl rfl rfl rfl)) (pa_cons (pv 3) pa_nil))) (blkOk_by (N := ["book", "g", "texts", "here", "lefts", "rights", "move"]) (sc := defScope s_show) (by decide +kernel)) (fun _ _ _ _ _ => by exact (pg_name (i := 6) sc_show.nd rfl (Or.inl rfl))) (fun _ _ _ _ _ => by exact pts_nil) (fun _ _ _ _ _ => by exact (pe_dget hu (pv 2) (pv 6) (fun _ _ => rfl)))) pa_nil)))
        (pss_one (ps_dput hu (pv 2) (pv 3) (pe_op op_add_str (pe_op op_add_str (pe_op op_add_str (pe_op op_add_str pe_str (kJoin K pe_str (pv 4))) pe_str) (kJoin K pe_str (pv 5))) pe_str) rfl))))
        pss_nil)))
    (pss_one (ps_ret (pe_dget hu (pv 2) (pv 1) (fun _ _ => rfl)))))), ?_⟩
  walk_at "st"
  refine w_disp fun td n_td => ?_
  refine w_pair ?_
  walk_at "st"
  refine w_pair0 ⟨upd_same, [(Sum.inl 0, .str "0")], rfl, Nat.le_of_ble_eq_true rfl, ?_⟩
  have f1 : Fr [] H (upd (upd H td (.dK [])) td (.dK (mergeK [] [(Sum.inl 0, .str "0")]))) := (Fr.new n_td).put n_td
  have h1 : (upd (upd H td (.dK [])) td (.dK (mergeK [] [(Sum.inl 0, .str "0")]))) td = some (.dK (tD (tx Bo) [0])) := by
    rw [upd_same]
    unfold tD
    rw [List.map_cons, tx_zero b.ok]
    rfl
  generalize upd (upd H td (.dK [])) td (.dK (mergeK [] [(Sum.inl 0, .str "0")])) = H1 at *
  walk_at "st"
  have b1 := b.fr0 f1
  rcases h with ⟨n, rfl, hn, q⟩ | ⟨hg, q⟩
  rotate_left
  · exact ⟨k, Bo, rfl, b1, hz, .inr ⟨hg.fr f1, q _ f1⟩⟩
  refine ⟨k, Bo, rfl, b1, hz, .inl ⟨n, rfl, hn, fun ms p H2 rc f2 np hms => ?_⟩⟩
  walk_at "st"
  have f12 := f1.trans f2
  have nms : H p = none := f1.fr _ np
  have ntp : td ≠ p := ne_of_none h1 np
  refine f_list (SqL.of hms) (fun i σ H' => ∃ x y z, σ = [some (.ref k.p), some (.int (n : Int)), some (.ref td), x, y, z, none] ∧ Fr [] H H' ∧ H' p = some (.lst (nV ms)) ∧ ∃ l, H' td = some (.dK (tD (tx Bo) l)) ∧ 0 ∈ l ∧ l.length ≤ i + 1 ∧ (∀ m, m ∈ l → m = 0 ∨ m ∈ ms.take i) ∧ (∀ m ∈ ms.take i, m ∈ l))
    ⟨_, _, _, rfl, f12, hms, [0], f2.kp _ _ h1 (by simp), by simp, by simp, by simp, by simp⟩ (fun i σ H' _ ⟨_, _, _, _, _, e, _⟩ => SqL.of e) ?_ ?_
  rotate_left
  · rintro σ H' ⟨x, y, z, rfl, f3, _, l, hl, _, _, _, lin⟩
    rw [List.take_of_length_le (by rw [nV_len]; exact Nat.le_refl _)] at lin
    walk_at "st"
    refine w_dget (k := Sum.inl (n : Int)) hl (tD_get (lin n rc.root)) ?_
    exact q _ f3
  · rintro i x σ H' hx ⟨x1, y1, z1, rfl, f3, hp3, l, hl, l0, ll, lo, lin⟩
    obtain ⟨h, hh, rfl⟩ := nV_get hx
    have hin : h ∈ ms := List.mem_of_getElem? hh
    have lt0 : h < Bo.length := rc.low h hin
    obtain ⟨r, hr0⟩ : ∃ r, Bo[h]? = some r := ⟨Bo[h], List.getElem?_eq_getElem lt0⟩
    walk_at "st"
    by_cases c0 : h = 0
    · subst c0
      refine w_no (by simp) ?_
      walk_at "st"
      refine ⟨_, _, _, rfl, f3, hp3, l, hl, l0, by omega, fun m hm => ?_, fun m hm => ?_⟩
      · rcases lo m hm with e | e
        · exact .inl e
        · exact .inr (by rw [List.take_add_one]; exact List.mem_append_left _ e)
      · rw [List.take_add_one, hh] at hm
        rcases List.mem_append.mp hm with e | e
        · exact lin m e
        · rw [List.mem_singleton.mp e]; exact l0
    · refine w_yes (by simp; omega) ?_
      -- moves are written
      have low0 := b.ok.low h r hr0
      have sr := b.ok.srt r (List.mem_of_getElem? hr0)
      have lt : ∀ m ∈ r.1 ++ r.2, m < Bo.length := fun m hm => by have := low0 m hm; omega
      have inl : ∀ m ∈ r.1 ++ r.2, m ∈ l := fun m hm => lin m (by
        have h2 : m ∈ ms := rc.cl h hin m (by rw [mvs_at hr0]; exact hm)
        have h3 := low0 m hm
        obtain ⟨j, hj⟩ := List.getElem?_of_mem h2
        have hjl := (List.getElem?_eq_some_iff.mp hj).1
        have hil := (List.getElem?_eq_some_iff.mp hh).1
        have : j < i := by
          by_cases q : j < i
          · exact q
          · exfalso
            rcases Nat.eq_or_lt_of_not_lt q with e | e
            · subst e; rw [hh] at hj; cases hj; omega
            · have pw := List.pairwise_iff_getElem.mp rc.srt i j hil hjl e
              rw [List.getElem?_eq_getElem hil] at hh
              rw [List.getElem?_eq_getElem hjl] at hj
              cases hh; cases hj; omega
        exact List.mem_iff_getElem?.mpr ⟨j, by rw [List.getElem?_take, if_pos this]; exact hj⟩)
      have le1 : r.1.length ≤ h := nodup_len _ _ (sr.1.imp fun h => Nat.ne_of_lt h) fun m hm => low0 m (List.mem_append_left _ hm)
      have le2 : r.2.length ≤ h := nodup_len _ _ (sr.2.imp fun h => Nat.ne_of_lt h) fun m hm => low0 m (List.mem_append_right _ hm)
      have b3 := b.fr0 f3
      walk_at "st"
      refine w_bmt b3.obj n_lef.1 n_lef.2.1 n_lef.2.2 ?_
      walk_at "st"
      refine ⟨k, Bo, rfl, b3, by omega, .inl ⟨h, r, rfl, hr0, ?_⟩⟩
      intro l4 n_l4
      have f_l4 : Fr [] H' (upd H' l4 (.lst (nV r.1))) := Fr.new n_l4
      have h_l4 : (upd H' l4 (.lst (nV r.1))) l4 = some (.lst (nV r.1)) := upd_same
      generalize upd H' l4 (.lst (nV r.1)) = H4 at *
      walk_at "st"
      refine c_list (SqL.of h_l4) (fun D j G => H4 D = none ∧ Fr [] H4 G ∧ G D = some (.lst (sV ((r.1.take j).map (tx Bo))))) (fun D G n g e => ⟨n, g, e⟩) (fun D j G _ p => SqL.of (p.2.1.kp _ _ h_l4 (by simp))) ?_ ?_
      · rintro D j x G hx ⟨nD, g, e⟩
        obtain ⟨m, hm, rfl⟩ := nV_get hx
        walk_at "st"
        refine w_dgetR (k := Sum.inl (m : Int)) (g.kp _ _ (f_l4.kp _ _ hl (by simp)) (by simp)) (tD_get (inl m (List.mem_append_left _ (List.mem_of_getElem? hm)))) ?_
        refine ⟨_, e, ?_, nD, g.put nD, ?_⟩
        · rw [sV_len, List.length_map, List.length_take, sizeLine_eq]; omega
        · rw [upd_same, List.take_add_one, hm]; unfold sV; simp
      rintro D4 G4 nn4 ⟨nD4, fD4, hD4⟩
      rw [List.take_of_length_le (by rw [nV_len]; exact Nat.le_refl _)] at hD4
      walk_at "st"
      refine ⟨D4, r.1.map (tx Bo), rfl, SqL.of hD4, by rw [List.length_map]; omega, fun ys p4 hp hs => ?_⟩
      rw [sorted_srt hp hs (tx_nodup b.ok sr.1 fun m hm => lt m (List.mem_append_left _ hm))]
      clear hp hs ys
      revert p4
      intro s4 n_s4
      have f_s4 : Fr [] G4 (upd G4 s4 (.lst ((srtS (r.1.map (tx Bo))).map V.str))) := Fr.new n_s4
      have h_s4 : (upd G4 s4 (.lst ((srtS (r.1.map (tx Bo))).map V.str))) s4 = some (.lst ((srtS (r.1.map (tx Bo))).map V.str)) := upd_same
      generalize upd G4 s4 (.lst ((srtS (r.1.map (tx Bo))).map V.str)) = J4 at *
      walk_at "st"
      have fs4 := (f_l4.trans fD4).trans f_s4
      have b4 := b3.fr0 fs4
      have hl4 := fs4.kp _ _ hl (by simp)
      refine w_bmt b4.obj n_rig.1 n_rig.2.1 n_rig.2.2 ?_
      walk_at "st"
      refine ⟨k, Bo, rfl, b4, by omega, .inl ⟨h, r, rfl, hr0, ?_⟩⟩
      intro l5 n_l5
      have f_l5 : Fr [] J4 (upd J4 l5 (.lst (nV r.2))) := Fr.new n_l5
      have h_l5 : (upd J4 l5 (.lst (nV r.2))) l5 = some (.lst (nV r.2)) := upd_same
      generalize upd J4 l5 (.lst (nV r.2)) = H5 at *
      walk_at "st"
      refine c_list (SqL.of h_l5) (fun D j G => H5 D = none ∧ Fr [] H5 G ∧ G D = some (.lst (sV ((r.2.take j).map (tx Bo))))) (fun D G n g e => ⟨n, g, e⟩) (fun D j G _ p => SqL.of (p.2.1.kp _ _ h_l5 (by simp))) ?_ ?_
      · rintro D j x G hx ⟨nD, g, e⟩
        obtain ⟨m, hm, rfl⟩ := nV_get hx
        walk_at "st"
        refine w_dgetR (k := Sum.inl (m : Int)) (g.kp _ _ (f_l5.kp _ _ hl4 (by simp)) (by simp)) (tD_get (inl m (List.mem_append_right _ (List.mem_of_getElem? hm)))) ?_
        refine ⟨_, e, ?_, nD, g.put nD, ?_⟩
        · rw [sV_len, List.length_map, List.length_take, sizeLine_eq]; omega
        · rw [upd_same, List.take_add_one, hm]; unfold sV; simp
      rintro D5 G5 nn5 ⟨nD5, fD5, hD5⟩
      rw [List.take_of_length_le (by rw [nV_len]; exact Nat.le_refl _)] at hD5
      walk_at "st"
      refine ⟨D5, r.2.map (tx Bo), rfl, SqL.of hD5, by rw [List.length_map]; omega, fun ys p5 hp hs => ?_⟩
      rw [sorted_srt hp hs (tx_nodup b.ok sr.2 fun m hm => lt m (List.mem_append_right _ hm))]
      clear hp hs ys
      revert p5
      intro s5 n_s5
      have f_s5 : Fr [] G5 (upd G5 s5 (.lst ((srtS (r.2.map (tx Bo))).map V.str))) := Fr.new n_s5
      have h_s5 : (upd G5 s5 (.lst ((srtS (r.2.map (tx Bo))).map V.str))) s5 = some (.lst ((srtS (r.2.map (tx Bo))).map V.str)) := upd_same
      generalize upd G5 s5 (.lst ((srtS (r.2.map (tx Bo))).map V.str)) = J5 at *
      walk_at "st"
      have fs5 := (f_l5.trans fD5).trans f_s5
      have hl5 := fs5.kp _ _ hl4 (by simp)
      have q4 := fs5.kp _ _ h_s4 (by simp)
      have bnd : ∀ (l : List Nat), (∀ m ∈ l, m < Bo.length) → l.length ≤ 62 → ((srtS (l.map (tx Bo))).map (·.length)).sum + (srtS (l.map (tx Bo))).length ≤ 6300000 := fun l hm h62 => by
        have a1 := sum_le (c := 100000) (l := srtS (l.map (tx Bo))) fun x hx => by
          obtain ⟨m, hm2, rfl⟩ := List.mem_map.mp (mem_srtS.mp hx)
          exact hlen m (hm m hm2)
        have a2 := srtS_len (l.map (tx Bo))
        rw [List.length_map] at a2
        generalize (srtS (l.map (tx Bo))).length = z at *
        omega
      have bd1 := bnd r.1 (fun m hm => lt m (List.mem_append_left _ hm)) (by omega)
      have bd2 := bnd r.2 (fun m hm => lt m (List.mem_append_right _ hm)) (by omega)
      have jl1 := join_len (srtS (r.1.map (tx Bo)))
      have jl2 := join_len (srtS (r.2.map (tx Bo)))
      have o1 : ("," : Str).length = 1 := by decide +kernel
      have o2 : ("{" : Str).length = 1 := by decide +kernel
      have o3 : ("|" : Str).length = 1 := by decide +kernel
      have o4 : ("}" : Str).length = 1 := by decide +kernel
      refine w_join (SqL.of q4) (by rw [o1]; omega) ?_
      refine ⟨_, _, rfl, rfl, by rw [o2, sizeLine_eq]; omega, ?_⟩
      walk_at "st"
      refine ⟨_, _, rfl, rfl, by rw [len_app, o2, o3, sizeLine_eq]; omega, ?_⟩
      walk_at "st"
      refine w_join (SqL.of h_s5) (by rw [o1]; omega) ?_
      refine ⟨_, _, rfl, rfl, by rw [len_app, len_app, o2, o3, sizeLine_eq]; omega, ?_⟩
      walk_at "st"
      refine ⟨_, _, rfl, rfl, by rw [len_app, len_app, len_app, o2, o3, o4, sizeLine_eq]; omega, ?_⟩
      rw [← tx_pos b.ok hr0 c0]
      walk_at "st"
      refine w_dputR (k := Sum.inl (h : Int)) hl5 (by rw [tD_len, sizeLine_eq]; have := rc.len; have hil := (List.getElem?_eq_some_iff.mp hh).1; omega) ?_
      have f35 := (f3.trans fs4).trans fs5
      have nih : h ∉ l := fun z => by
        rcases lo h z with e | e
        · exact c0 e
        · obtain ⟨j, hj⟩ := List.getElem?_of_mem e
          rw [List.getElem?_take] at hj
          split at hj
          · rename_i hji
            have nd : ms.Nodup := rc.srt.imp fun h => Nat.ne_of_lt h
            have hil := (List.getElem?_eq_some_iff.mp hh).1
            have := (List.getElem?_inj hil nd).mp (hh.trans hj.symm)
            omega
          · cases hj
      rw [tD_put _ _ _ nih]
      refine ⟨_, _, _, rfl, f35.put n_td, ?_, l ++ [h], upd_same, List.mem_append_left _ l0, ?_, fun m hm => ?_, fun m hm => ?_⟩
      · rw [upd_ne ntp.symm]; exact fs5.kp _ _ (fs4.kp _ _ hp3 (by simp)) (by simp)
      · rw [List.length_append, List.length_singleton]; omega
      · rw [List.take_add_one, hh]
        rcases List.mem_append.mp hm with e | e
        · rcases lo m e with e | e
          · exact .inl e
          · exact .inr (List.mem_append_left _ e)
        · exact .inr (List.mem_append_right _ e)
      · rw [List.take_add_one, hh] at hm
        rcases List.mem_append.mp hm with e | e
        · exact List.mem_append_left _ (lin m e)
        · exact List.mem_append_right _ e
end

/-! ### the laws' cells and stores -/

section
variable {P : Program} {w : World} {K : PySem.W.Frag} {mg : Str → Option Value} {base : Heap} {CB CE : Addr}
def StAt (H : Hp) (p : Addr) : Prop := ∃ g y t : Int, H p = some (.lst [.int g, .int y, .int t])
def cCell (K : PySem.W.Frag) : P2' := fun script kk H Q _ => ∃ p, ∃ xs : List Int, ∃ k : Nat, script = .ref p ∧ kk = .int (k : Int) ∧ SqL K H p (xs.map V.int) ∧ k ≤ 100000 ∧ ∀ z : Int, Q (.int z) H
def cStore : P1 := fun cell H Q _ => ∃ z : Int, cell = .int z ∧ ∀ p H', Fr [] H H' → H p = none → StAt H' p → Q (.ref p) H'
def cTake : P2' := fun st many H Q _ => ∃ p, ∃ m : Nat, st = .ref p ∧ many = .int (m : Int) ∧ 0 < m ∧ m < 1000000 ∧ StAt H p ∧ ∀ z : Nat, z < m → ∀ H', Fr [p] H H' → StAt H' p → Q (.int (z : Int)) H'
abbrev s__law_cell : Stmt := topS 16
theorem sc__law_cell : FnScope ["script", "k"] ["script", "k"] (defScope s__law_cell) := ⟨rfl, rfl, rfl, by decide +kernel, rfl, by decide +kernel, by decide +kernel⟩
theorem ok__law_cell (B : Blt mg) (S : Src K mg "_law_cell" s__law_cell ["script", "k"]) : DefOk P w K mg base CX0 1 "_law_cell" ["script", "k"] (sp2 (cCell K)) := by
  refine S.ok sc__law_cell len2 fun f cdv A outer s H vs Q E hr h => ?_
  obtain ⟨script, kk, rfl, p, xs, k, rfl, rfl, hs, hk, q⟩ := h
  have hu := hu_of hr
  have hu64 := hr.units
  refine ⟨_, (pss_cons (ps_if (pt_cmpR op_lt (pv 1) (pe_callB (cLen K) (by rfl) B.k_len bb_len (pa_cons (pv 0) pa_nil)) (nomark _))
      (pss_one (ps_ret (pe_ix (ixL K) (pv 0) (pv 1) (fun _ _ => rfl))))
      pss_nil)
    (pss_one (ps_ret (pe_op op_add (pe_op op_add (pe_op op_mul (pe_op op_mul pe_int (pv 1)) (pv 1)) (pe_op op_mul pe_int (pv 1))) pe_int)))), ?_⟩
  walk_at "st"
  refine w_lenL hs ?_
  walk_at "st"
  refine w_dec (fun c => ?_) fun c => ?_
  · walk_at "st"
    rw [List.length_map] at c
    have c : k < xs.length := by omega
    refine w_ixL hs (atI_nat (j := k) (v := .int xs[k]) (by rw [List.getElem?_map, List.getElem?_eq_getElem c]; rfl)) ?_
    exact q _
  · walk_at "st"
    refine w_I (.inl ⟨by decide, by decide⟩) ?_
    walk_at "st"
    refine w_I (.inr ⟨by omega, by omega⟩) ?_
    walk_at "st"
    refine w_I (.inl ⟨by decide, by decide⟩) ?_
    walk_at "st"
    exact q _
abbrev s__law_store : Stmt := topS 17
theorem sc__law_store : FnScope ["cell", "great"] ["cell"] (defScope s__law_store) := ⟨rfl, rfl, rfl, by decide +kernel, rfl, by decide +kernel, by decide +kernel⟩
theorem ok__law_store (B : Blt mg) (S : Src K mg "_law_store" s__law_store ["cell"]) : DefOk P w K mg base CX0 1 "_law_store" ["cell"] (sp1 cStore) := by
  refine S.ok sc__law_store len1 fun f cdv A outer s H vs Q E hr h => ?_
  obtain ⟨cell, rfl, z, rfl, q⟩ := h
  have hu := hu_of hr
  have hu64 := hr.units
  refine ⟨_, (pss_cons (ps_set (i := 1) sc__law_store.nd rfl (Or.inl rfl) pe_int)
    (pss_cons (ps_if (pt_cmpR op_ge (pv 0) (pe_op op_pow pe_int pe_int) (nomark _))
      (pss_one (ps_set (i := 1) sc__law_store.nd rfl (Or.inl rfl) (pv 0)))
      pss_nil)
    (pss_one (ps_ret (pe_lst (pa_cons (pv 1) (pa_cons (pe_op op_mod (pv 0) pe_int) (pa_cons pe_int pa_nil)))))))), ?_⟩
  walk_at "st"
  refine w_I ⟨by decide, by decide, by decide⟩ ?_
  walk_at "st"
  refine w_dec (fun c => ?_) fun c => ?_
  · walk_at "st"
    refine w_I (by decide) ?_
    walk_at "st"
    intro l n_l
    have f_l : Fr [] H (upd H l (.lst [.int z, .int (z % 2147483629), .int 1])) := Fr.new n_l
    have h_l : (upd H l (.lst [.int z, .int (z % 2147483629), .int 1])) l = some (.lst [.int z, .int (z % 2147483629), .int 1]) := upd_same
    generalize upd H l (.lst [.int z, .int (z % 2147483629), .int 1]) = H1 at *
    exact q l H1 f_l n_l ⟨_, _, _, h_l⟩
  · walk_at "st"
    refine w_I (by decide) ?_
    walk_at "st"
    intro l n_l
    have f_l : Fr [] H (upd H l (.lst [.int 0, .int (z % 2147483629), .int 1])) := Fr.new n_l
    have h_l : (upd H l (.lst [.int 0, .int (z % 2147483629), .int 1])) l = some (.lst [.int 0, .int (z % 2147483629), .int 1]) := upd_same
    generalize upd H l (.lst [.int 0, .int (z % 2147483629), .int 1]) = H1 at *
    exact q l H1 f_l n_l ⟨_, _, _, h_l⟩
abbrev s__law_take : Stmt := topS 18
theorem sc__law_take : FnScope ["store", "many", "told", "one"] ["store", "many"] (defScope s__law_take) := ⟨rfl, rfl, rfl, by decide +kernel, rfl, by decide +kernel, by decide +kernel⟩
theorem ok__law_take (B : Blt mg) (S : Src K mg "_law_take" s__law_take ["store", "many"]) : DefOk P w K mg base CX0 1 "_law_take" ["store", "many"] (sp2 cTake) := by
  refine S.ok sc__law_take len2 fun f cdv A outer s H vs Q E hr h => ?_
  obtain ⟨st, many, rfl, p, m, rfl, rfl, m0, m1, ⟨g, y, t, hp⟩, q⟩ := h
  have hu := hu_of hr
  have hu64 := hr.units
  refine ⟨_, (pss_cons (ps_if (pt_cmpR op_gt (pe_ix (ixL K) (pv 0) pe_int (fun _ _ => rfl)) pe_int (nomark _))
      (pss_cons (ps_set (i := 2) sc__law_take.nd rfl (Or.inl rfl) (pe_op op_mod (pe_ix (ixL K) (pv 0) pe_int (fun _ _ => rfl)) (pv 1)))
      (pss_cons (ps_asg (pe_op op_fdiv (pe_ix (ixL K) (pv 0) pe_int (fun _ _ => rfl)) (pv 1)) (pg_sub (pv 0) pe_int set_list))
      (pss_one (ps_ret (pv 2)))))
      pss_nil)
    (pss_cons (ps_asg (pe_op op_add (pe_ix (ixL K) (pv 0) pe_int (fun _ _ => rfl)) pe_int) (pg_sub (pv 0) pe_int set_list))
    (pss_cons (ps_set (i := 3) sc__law_take.nd rfl (Or.inl rfl) (pe_op op_mod (pe_op op_mul (pe_op op_add (pe_ix (ixL K) (pv 0) pe_int (fun _ _ => rfl)) (pe_op op_mul pe_int (pe_ix (ixL K) (pv 0) pe_int (fun _ _ => rfl)))) pe_int) pe_int))
    (pss_cons (ps_set (i := 3) sc__law_take.nd rfl (Or.inl rfl) (pe_op op_mod (pe_op op_mul (pv 3) (pv 3)) pe_int))
    (pss_cons (ps_set (i := 3) sc__law_take.nd rfl (Or.inl rfl) (pe_op op_mod (pe_op op_mul (pe_op op_add (pv 3) (pe_op op_mul pe_int (pe_ix (ixL K) (pv 0) pe_int (fun _ _ => rfl)))) pe_int) pe_int))
    (pss_one (ps_ret (pe_op op_mod (pe_op op_fdiv (pv 3) pe_int) (pv 1))))))))), ?_⟩
  walk_at "st"
  refine w_ixL (SqL.of hp) (atI_nat (j := 0) rfl) ?_
  walk_at "st"
  refine w_dec (fun c => ?_) fun c => ?_
  · walk_at "st"
    refine w_ixL (SqL.of hp) (atI_nat (j := 0) rfl) ?_
    walk_at "st"
    refine w_I (show (0 : Int) < (m : Int) by omega) ?_
    walk_at "st"
    refine w_ixL (SqL.of hp) (atI_nat (j := 0) rfl) ?_
    walk_at "st"
    refine w_I ⟨by omega, by omega⟩ ?_
    walk_at "st"
    refine w_setL hp (j := 0) rfl ?_
    walk_at "st"
    have h1 : 0 ≤ g % (m : Int) := Int.emod_nonneg _ (by omega)
    have h2 : g % (m : Int) < (m : Int) := Int.emod_lt_of_pos _ (by omega)
    obtain ⟨z, hz⟩ := Int.eq_ofNat_of_zero_le h1
    rw [hz]
    exact q z (by omega) _ (Fr.at (Fr.refl _ _) (by simp) hp rfl) ⟨_, _, _, upd_same⟩
  · walk_at "st"
    refine w_ixL (SqL.of hp) (atI_nat (j := 2) rfl) ?_
    walk_at "st"
    refine w_setL hp (j := 2) rfl ?_
    have f1 : Fr [p] H (upd H p (.lst ([V.int g, V.int y, V.int t].set 2 (.int (t + 1))))) := Fr.at (Fr.refl _ _) (by simp) hp rfl
    have h1 : (upd H p (.lst ([V.int g, V.int y, V.int t].set 2 (.int (t + 1))))) p = some (.lst [V.int g, V.int y, V.int (t + 1)]) := upd_same
    generalize upd H p (.lst ([V.int g, V.int y, V.int t].set 2 (.int (t + 1)))) = H1 at *
    walk_at "st"
    refine w_ixL (SqL.of h1) (atI_nat (j := 1) rfl) ?_
    walk_at "st"
    refine w_ixL (SqL.of h1) (atI_nat (j := 2) rfl) ?_
    refine w_I (.inl ⟨by decide, by decide⟩) ?_
    walk_at "st"
    refine w_I (.inr ⟨by decide, by decide⟩) ?_
    walk_at "st"
    refine w_I (by decide) ?_
    walk_at "st"
    have b1 : 0 ≤ (y + 7919 * (t + 1)) * 48271 % 2147483647 := Int.emod_nonneg _ (by decide)
    have b2 : (y + 7919 * (t + 1)) * 48271 % 2147483647 < 2147483647 := Int.emod_lt_of_pos _ (by decide)
    generalize (y + 7919 * (t + 1)) * 48271 % 2147483647 = o at *
    refine w_I (.inl ⟨by omega, by omega⟩) ?_
    walk_at "st"
    refine w_I (by decide) ?_
    walk_at "st"
    refine w_ixL (SqL.of h1) (atI_nat (j := 2) rfl) ?_
    refine w_I (.inl ⟨by decide, by decide⟩) ?_
    walk_at "st"
    refine w_I (.inr ⟨by decide, by decide⟩) ?_
    walk_at "st"
    refine w_I (by decide) ?_
    walk_at "st"
    refine w_I ⟨by decide, by decide⟩ ?_
    walk_at "st"
    refine w_I (show (0 : Int) < (m : Int) by omega) ?_
    walk_at "st"
    generalize (o * o % 2147483629 + 40692 * (t + 1)) * 69621 % 2147483587 / 8 = e
    have h3 : 0 ≤ e % (m : Int) := Int.emod_nonneg _ (by omega)
    have h4 : e % (m : Int) < (m : Int) := Int.emod_lt_of_pos _ (by omega)
    obtain ⟨z, hz⟩ := Int.eq_ofNat_of_zero_le h3
    rw [hz]
    exact q z (by omega) _ f1 ⟨_, _, _, h1⟩
end

/-! ### tables of games, drawn -/

section
variable {P : Program} {w : World} {K : PySem.W.Frag} {mg : Str → Option Value} {base : Heap} {CB CE : Addr}
def cGames (K : PySem.W.Frag) : P4' := fun script begin most deepest H Q _ => ∃ p, ∃ xs : List Int, ∃ b m d : Nat, script = .ref p ∧ begin = .int (b : Int) ∧ most = .int (m : Int) ∧ deepest = .int (d : Int) ∧ SqL K H p (xs.map V.int) ∧ b ≤ 1000 ∧ m ≤ 1000 ∧ 0 < d ∧
  ∀ t tab H', Tb d 3 tab → tab.length ≤ m + 1 → Fr [] H H' → H t = none → TabAt H' t tab (· ≠ t) → Q (.ref t) H'
theorem TabAt.first {H : Hp} {p a b t : Addr} {N : Addr → Prop} (h1 : H p = some (.lst [.ref t])) (h2 : H t = some (.tup [.ref a, .ref b])) (h3 : H a = some (.lst [])) (h4 : H b = some (.lst [])) (na : N a) (nb : N b) : TabAt H p [([], [])] N := by
  refine ⟨_, h1, rfl, fun i r hr => ?_⟩
  match i, hr with
  | 0, hr =>
    have hr : ([], []) = r := Option.some.inj hr
    subst hr
    exact ⟨t, a, b, rfl, h2, h3, h4, na, nb⟩
  | i + 1, hr => cases hr
abbrev s__law_games : Stmt := topS 19
theorem sc__law_games : FnScope ["script", "begin", "most", "deepest", "table", "depths", "k", "store", "low", "sides", "turn", "at", "j"] ["script", "begin", "most", "deepest"] (defScope s__law_games) := ⟨rfl, rfl, rfl, by decide +kernel, rfl, by decide +kernel, by decide +kernel⟩
theorem ok__law_games (B : Blt mg) (d__law_cell : DefOk P w K mg base CX0 1 "_law_cell" ["script", "k"] (sp2 (cCell K))) (d__law_store : DefOk P w K mg base CX0 1 "_law_store" ["cell"] (sp1 cStore)) (d__law_take : DefOk P w K mg base CX0 1 "_law_take" ["store", "many"] (sp2 cTake)) (S : Src K mg "_law_games" s__law_games ["script", "begin", "most", "deepest"]) : DefOk P w K mg base CX0 2 "_law_games" ["script", "begin", "most", "deepest"] (sp4 (cGames K)) := by
  refine S.ok sc__law_games len4 fun f cdv A outer s H vs Q E hr h => ?_
  obtain ⟨script, begin, most, deepest, rfl, p, xs, b, m, d, rfl, rfl, rfl, rfl, hs, hb, hm, hd, q⟩ := h
  have hu := hu_of hr
  have hu64 := hr.units
  refine ⟨_, (pss_cons (ps_set (i := 4) sc__law_games.nd rfl (Or.inl rfl) (pe_lst (pa_cons (pe_tup (pa_cons (pe_lst pa_nil) (pa_cons (pe_lst pa_nil) pa_nil))) pa_nil)))
    (pss_cons (ps_set (i := 5) sc__law_games.nd rfl (Or.inr rfl) (pe_lst (pa_cons pe_int pa_nil)))
    (pss_cons (ps_for PassesOwn.never rfl (pi_range1 (by rfl) B.k_range (pa_cons (pe_callB cMin2 (by rfl) B.k_min bb_min (pa_cons (pe_callB cMax2 (by rfl) B.k_max bb_max (pa_cons (pe_op op_sub (pe_callB (cLen K) (by rfl) B.k_len bb_len (pa_cons (pv 0) pa_nil)) (pv 1)) (pa_cons pe_int pa_nil))) (pa_cons (pv 2) pa_nil))) pa_nil)) (pg_name (i := 6) sc__law_games.nd rfl (Or.inl rfl))
      (pss_cons (ps_set (i := 7) sc__law_games.nd rfl (Or.inr rfl) (pe_fn d__law_store (hr.mono (by omega)) pass0 (pa_cons (pe_fn d__law_cell (hr.mono (by omega)) pass0 (pa_cons (pv 0) (pa_cons (pe_op op_add (pv 1) (pv 6)) pa_nil))) pa_nil)))
      (pss_cons (ps_set (i := 8) sc__law_games.nd rfl (Or.inr rfl) (pe_lc (own := [("at", 11)]) (g := gName 11) rfl sc__law_games.nd (pi_range1 (by rfl) B.k_range (pa_cons (pe_callB (cLen K) (by rfl) B.k_len bb_len (pa_cons (pv 4) pa_nil)) pa_nil)) (blkOk_by (N := ["script", "begin", "most", "deepest", "table", "depths", "k", "store", "low", "sides", "turn", "at", "j"]) (sc := defScope s__law_games) (by decide +kernel)) (fun _ _ _ _ _ => by exact (pg_name (i := 11) sc__law_games.nd rfl (Or.inl rfl))) (fun _ _ _ _ _ => by exact (pts_one (pt_cmpR op_lt (pe_ix (ixL K) (pv 5) (pv 11) (fun _ _ => rfl)) (pv 3) (nomark _)))) (fun _ _ _ _ _ => by exact (pv 11))))
      (pss_cons (ps_set (i := 9) sc__law_games.nd rfl (Or.inl rfl) (pe_lst pa_nil))
      (pss_cons (ps_for PassesOwn.never rfl (pi_range1 (by rfl) B.k_range (pa_cons pe_int pa_nil)) (pg_name (i := 10) sc__law_games.nd rfl (Or.inl rfl))
        (pss_one (ps_expr (kBM K PySem.F.plainAttrs_list PySem.F.slot_list_append PySem.F.type_list_append mt_append (pv 9) (pa_cons (pe_lc (own := [("j", 12)]) (g := gName 12) (tt := tYes) rfl sc__law_games.nd (pi_range1 (by rfl) B.k_range (pa_cons (pe_fn d__law_take (hr.mono (by omega)) pass0 (pa_cons (pv 7) (pa_cons pe_int pa_nil))) pa_nil)) (blkOk_by (N := ["script", "begin", "most", "deepest", "table", "depths", "k", "store", "low", "sides", "turn", "at", "j"]) (sc := defScope s__law_games) (by decide +kernel)) (fun _ _ _ _ _ => by exact (pg_name (i := 12) sc__law_games.nd rfl (Or.inl rfl))) (fun _ _ _ _ _ => by exact pts_nil) (fun _ _ _ _ _ => by exact (pe_ix (ixL K) (pv 8) (pe_fn d__law_take (hr.mono (by omega)) pass0 (pa_cons (pv 7) (pa_cons (pe_callB (cLen K) (by rfl) B.k_len bb_len (pa_cons (pv 8) pa_nil)) pa_nil))) (fun _ _ => rfl)))) pa_nil)))))
      (pss_cons (ps_expr (kBM K PySem.F.plainAttrs_list PySem.F.slot_list_append PySem.F.type_list_append mt_append (pv 4) (pa_cons (pe_tup (pa_cons (pe_ix (ixL K) (pv 9) pe_int (fun _ _ => rfl)) (pa_cons (pe_ix (ixL K) (pv 9) pe_int (fun _ _ => rfl)) pa_nil))) pa_nil)))
      (pss_one (ps_expr (kBM K PySem.F.plainAttrs_list PySem.F.slot_list_append PySem.F.type_list_append mt_append (pv 5) (pa_cons (pe_callB (cMax K) (by rfl) B.k_max bb_max (pa_cons (pe_op op_cat (pe_lst (pa_cons pe_int pa_nil)) (pe_lc (own := [("at", 11)]) (g := gName 11) (tt := tYes) rfl sc__law_games.nd (iL K (pe_op op_cat (pe_ix (ixL K) (pv 9) pe_int (fun _ _ => rfl)) (pe_ix (ixL K) (pv 9) pe_int (fun _ _ => rfl)))) (blkOk_by (N := ["script", "begin", "most", "deepest", "table", "depths", "k", "store", "low", "sides", "turn", "at", "j"]) (sc := defScope s__law_games) (by decide +kernel)) (fun _ _ _ _ _ => by exact (pg_name (i := 11) sc__law_games.nd rfl (Or.inl rfl))) (fun _ _ _ _ _ => by exact pts_nil) (fun _ _ _ _ _ => by exact (pe_op op_add pe_int (pe_ix (ixL K) (pv 5) (pv 11) (fun _ _ => rfl)))))) pa_nil)) pa_nil))))))))))
    (pss_one (ps_ret (pv 4)))))), ?_⟩
  walk_at "st"
  intro e1 n_e1
  have f_e1 : Fr [] H (upd H e1 (.lst [])) := Fr.new n_e1
  have h_e1 : (upd H e1 (.lst [])) e1 = some (.lst []) := upd_same
  generalize upd H e1 (.lst []) = H1 at *
  walk_at "st"
  intro e2 n_e2
  have f_e2 : Fr [] H1 (upd H1 e2 (.lst [])) := Fr.new n_e2
  have h_e2 : (upd H1 e2 (.lst [])) e2 = some (.lst []) := upd_same
  generalize upd H1 e2 (.lst []) = H2 at *
  walk_at "st"
  intro e3 n_e3
  have f_e3 : Fr [] H2 (upd H2 e3 (.tup [.ref e1, .ref e2])) := Fr.new n_e3
  have h_e3 : (upd H2 e3 (.tup [.ref e1, .ref e2])) e3 = some (.tup [.ref e1, .ref e2]) := upd_same
  generalize upd H2 e3 (.tup [.ref e1, .ref e2]) = H3 at *
  walk_at "st"
  intro t n_t
  have f_t : Fr [] H3 (upd H3 t (.lst [.ref e3])) := Fr.new n_t
  have h_t : (upd H3 t (.lst [.ref e3])) t = some (.lst [.ref e3]) := upd_same
  generalize upd H3 t (.lst [.ref e3]) = H4 at *
  walk_at "st"
  intro dl n_dl
  have f_dl : Fr [] H4 (upd H4 dl (.lst [.int 0])) := Fr.new n_dl
  have h_dl : (upd H4 dl (.lst [.int 0])) dl = some (.lst [.int 0]) := upd_same
  generalize upd H4 dl (.lst [.int 0]) = H5 at *
  walk_at "st"
  have f4 := ((f_e1.trans f_e2).trans f_e3).trans f_t
  have f5 := f4.trans f_dl
  refine w_lenL (f5.seqL (by simp) hs) ?_
  walk_at "st"
  obtain ⟨n, hn, hnm⟩ : ∃ n : Nat, min (max (((xs.map V.int).length : Int) - (b : Int)) 4) (m : Int) = (n : Int) ∧ n ≤ m := ⟨(min (max (((xs.map V.int).length : Int) - (b : Int)) 4) (m : Int)).toNat, by omega, by omega⟩
  have net : t ≠ dl := ne_of_none h_t n_dl
  have nt : H t = none := (((f_e1.trans f_e2).trans f_e3)).fr _ n_t
  have ndl : H dl = none := f4.fr _ n_dl
  have k1 := f_dl.kp _ _ (f_t.kp _ _ (f_e3.kp _ _ (f_e2.kp _ _ h_e1 (by simp)) (by simp)) (by simp)) (by simp)
  have k2 := f_dl.kp _ _ (f_t.kp _ _ (f_e3.kp _ _ h_e2 (by simp)) (by simp)) (by simp)
  have k3 := f_dl.kp _ _ (f_t.kp _ _ h_e3 (by simp)) (by simp)
  have k4 := f_dl.kp _ _ h_t (by simp)
  have d1 : e1 ≠ t := ne_of_none (f_e3.kp _ _ (f_e2.kp _ _ h_e1 (by simp)) (by simp)) n_t
  have d2 : e2 ≠ t := ne_of_none (f_e3.kp _ _ h_e2 (by simp)) n_t
  have d3 : e1 ≠ dl := ne_of_none (f_t.kp _ _ (f_e3.kp _ _ (f_e2.kp _ _ h_e1 (by simp)) (by simp)) (by simp)) n_dl
  have d4 : e2 ≠ dl := ne_of_none (f_t.kp _ _ (f_e3.kp _ _ h_e2 (by simp)) (by simp)) n_dl
  refine f_rng1 (n := n) hn (by omega) (fun i σ G => ∃ tab x6 x7 x8 x9 x10, σ = [some (.ref p), some (.int (b : Int)), some (.int (m : Int)), some (.int (d : Int)), some (.ref t), some (.ref dl), x6, x7, x8, x9, x10, none, none] ∧ Tb d 3 tab ∧ tab.length = i + 1 ∧ TabAt G t tab (fun a => a ≠ t ∧ a ≠ dl) ∧ G dl = some (.lst (nV (evalB dpF 0 tab))) ∧ Fr [] H G)
    ⟨[([], [])], _, _, _, _, _, rfl, .one _ _, rfl, .first k4 k3 k1 k2 ⟨d1, d3⟩ ⟨d2, d4⟩, h_dl, f5⟩ ?_ ?_
  rotate_left
  · rintro σ G ⟨tab, x6, x7, x8, x9, x10, rfl, tb, tl, ta, _, g⟩
    walk_at "st"
    exact q t tab G tb (by omega) g nt (ta.fr (Fr.refl [] G) (by simp) fun _ _ _ n => ⟨by simp, n.1⟩)
  · rintro i σ G hi ⟨tab, x6, x7, x8, x9, x10, rfl, tb, tl, ta, hdl, g⟩
    walk_at "st"
    refine ⟨p, xs, b + i, rfl, rfl, g.seqL (by simp) hs, by omega, fun z => ?_⟩
    walk_at "st"
    refine ⟨z, rfl, fun st G1 g1 nst hst => ?_⟩
    walk_at "st"
    obtain ⟨ts, t1, t2, t3⟩ := ta.ex
    have hdl1 := g1.kp _ _ hdl (by simp)
    refine w_lenL (SqL.of (g1.kp _ _ t1 (by simp))) ?_
    refine c_rng1 (n := tab.length) (by rw [t2]) (by omega) (fun D j G' => G1 D = none ∧ Fr [] G1 G' ∧ G' D = some (.lst (nV (lowN tab d j)))) (fun D G' n g e => ⟨n, g, e⟩) ?_ ?_
    · rintro D j G' hj ⟨nD, g', e⟩
      walk_at "st"
      refine w_ixL (SqL.of (g'.kp _ _ hdl1 (by simp))) (atI_nat (v := .int (dp tab j : Nat)) (by unfold nV; rw [List.getElem?_map, evalB_get dpF 0 hj]; rfl)) ?_
      walk_at "st"
      refine w_dec (fun c => ?_) fun c => ?_
      · walk_at "st"
        refine ⟨_, e, ?_, nD, g'.put nD, ?_⟩
        · rw [nV_len, sizeLine_eq]; have := lowN_len tab d j; omega
        · rw [upd_same, lowN_succ, if_pos (by omega)]; unfold nV; simp
      · refine ⟨nD, g', ?_⟩
        rw [lowN_succ, if_neg (by omega), List.append_nil]; exact e
    rintro lo G2 nlo ⟨_, g2, hlo⟩
    have lpos : 0 < (lowN tab d tab.length).length := lowN_pos tb hd tb.pos
    have llen := lowN_len tab d tab.length
    have lmem : ∀ m ∈ lowN tab d tab.length, m < tab.length ∧ dp tab m < d := fun m hm => lowN_mem hm
    generalize lowN tab d tab.length = lw at *
    walk_at "st"
    intro sd n_sd
    have f_sd : Fr [] G2 (upd G2 sd (.lst [])) := Fr.new n_sd
    have h_sd : (upd G2 sd (.lst [])) sd = some (.lst []) := upd_same
    generalize upd G2 sd (.lst []) = G3 at *
    walk_at "st"
    have g03 := (g1.trans g2).trans f_sd
    obtain ⟨sg, sy, sT, hst0⟩ := hst
    have hst3 := f_sd.kp _ _ (g2.kp _ _ hst0 (by simp)) (by simp)
    have hlo3 := f_sd.kp _ _ hlo (by simp)
    have nsd : G sd = none := (g1.trans g2).fr _ n_sd
    have nlo0 : G lo = none := g1.fr _ nlo
    have slo : lo ≠ st := (ne_of_none hst0 nlo).symm
    have ssd : sd ≠ st := (ne_of_none (g2.kp _ _ hst0 (by simp)) n_sd).symm
    have sdlo : sd ≠ lo := (ne_of_none hlo n_sd).symm
    refine f_rng1 (n := 2) rfl (by omega) (fun i' σ G' => ∃ x, σ = [some (.ref p), some (.int (b : Int)), some (.int (m : Int)), some (.int (d : Int)), some (.ref t), some (.ref dl), some (.int (i : Int)), some (.ref st), some (.ref lo), some (.ref sd), x, none, none] ∧ Fr [] G G' ∧ (∀ a, G' a = none → G3 a = none) ∧ StAt G' st ∧ G' lo = some (.lst (nV lw)) ∧ ∃ as : List (Addr × List Nat), G' sd = some (.lst (as.map fun x => .ref x.1)) ∧ as.length = i' ∧ ∀ x ∈ as, G' x.1 = some (.lst (nV x.2)) ∧ G3 x.1 = none ∧ x.2.length ≤ 3 ∧ ∀ m ∈ x.2, m < tab.length ∧ dp tab m < d)
      ⟨_, rfl, g03, fun _ h => h, ⟨_, _, _, hst3⟩, hlo3, [], h_sd, rfl, by simp⟩ ?_ ?_
    · rintro i' σ G' hi' ⟨x, rfl, gT, frT, hstT, hloT, as, hsd, asl, asx⟩
      walk_at "st"
      refine w_tyL (SqL.of hsd) ?_
      walk_at "st"
      refine ⟨st, 4, rfl, rfl, by omega, by omega, hstT, fun z hz G5 g5 hst5 => ?_⟩
      walk_at "st"
      have hlo5 := g5.kp _ _ hloT (by simpa using slo)
      refine c_rng1 (n := z) rfl (by omega) (fun D j G' => G5 D = none ∧ Fr [st] G5 G' ∧ StAt G' st ∧ ∃ L : List Nat, G' D = some (.lst (nV L)) ∧ L.length = j ∧ ∀ m ∈ L, m < tab.length ∧ dp tab m < d)
        (fun D G' n g e => ⟨n, g.of0, by obtain ⟨a, b, c, e⟩ := hst5; exact ⟨a, b, c, g.kp _ _ e (by simp)⟩, [], e, rfl, by simp⟩) ?_ ?_
      · rintro D j G' hj ⟨nD, g, hs', L, e, eL, eg⟩
        walk_at "st"
        have hlo' := g.kp _ _ hlo5 (by simpa using slo)
        refine w_lenL (SqL.of hlo') ?_
        walk_at "st"
        refine ⟨st, lw.length, rfl, by rw [nV_len], lpos, by omega, hs', fun z' hz' G6 g6 hst6 => ?_⟩
        refine w_ixL (SqL.of (g6.kp _ _ hlo' (by simpa using slo))) (atI_nat (v := .int (lw[z'] : Nat)) (by unfold nV; rw [List.getElem?_map, List.getElem?_eq_getElem hz']; rfl)) ?_
        have Dst : D ≠ st := by
          obtain ⟨_, _, _, e⟩ := hst5
          exact (ne_of_none e nD).symm
        have e6 := g6.kp _ _ e (by simpa using Dst)
        refine ⟨_, e6, ?_, nD, (g.trans g6).put nD, ?_, L ++ [lw[z']], ?_, ?_, ?_⟩
        · rw [nV_len, sizeLine_eq]; omega
        · obtain ⟨a, b, c, e⟩ := hst6; exact ⟨a, b, c, by rw [upd_ne Dst.symm]; exact e⟩
        · rw [upd_same]; unfold nV; rw [List.map_append]; rfl
        · rw [List.length_append, List.length_singleton, eL]
        · intro m hm
          rcases List.mem_append.mp hm with h | h
          · exact eg m h
          · rw [List.mem_singleton.mp h]; exact lmem _ (List.getElem_mem hz')
      rintro D G6 nD ⟨nD5, g6, hst6, L, hD, eL, eg⟩
      have g56 := Fr.thru (Fr.thru gT nst g5) nst g6
      have gst : Fr [st] G' G6 := g5.trans g6
      walk_at "st"
      have hsd6 := gst.kp _ _ hsd (by simpa using ssd)
      refine w_append hsd6 (by rw [List.length_map, asl, sizeLine_eq]; omega) ?_
      walk_at "st"
      have D3 : G3 D = none := frT _ (g5.fr _ nD5)
      have Dsd : D ≠ sd := (ne_of_none (g5.kp _ _ hsd (by simpa using ssd)) nD5).symm
      refine ⟨_, rfl, g56.put nsd, fun a ha => ?_, ?_, ?_, as ++ [(D, L)], ?_, ?_, ?_⟩
      · by_cases e : a = sd
        · subst e; rw [upd_same] at ha; cases ha
        · rw [upd_ne e] at ha; exact frT _ (gst.fr _ ha)
      · obtain ⟨a, b, c, e⟩ := hst6; exact ⟨a, b, c, by rw [upd_ne ssd.symm]; exact e⟩
      · rw [upd_ne sdlo.symm]; exact gst.kp _ _ hloT (by simpa using slo)
      · rw [upd_same, List.map_append]; rfl
      · rw [List.length_append, List.length_singleton, asl]
      · intro x hx
        rcases List.mem_append.mp hx with h | h
        · obtain ⟨a1, a2, a3, a4⟩ := asx x h
          have n1 : x.1 ≠ st := (ne_of_none hst3 a2).symm
          have n2 : x.1 ≠ sd := (ne_of_none h_sd a2).symm
          exact ⟨by rw [upd_ne n2]; exact gst.kp _ _ a1 (by simpa using n1), a2, a3, a4⟩
        · rw [List.mem_singleton.mp h]
          exact ⟨by rw [upd_ne Dsd]; exact hD, D3, by show L.length ≤ 3; omega, eg⟩
    rintro σ G7 ⟨x, rfl, g7, _, _, _, as, hsd, asl, asx⟩
    obtain ⟨⟨a1, L1⟩, ⟨a2, L2⟩, rfl⟩ : ∃ x y, as = [x, y] := by
      match as, asl with
      | [x, y], _ => exact ⟨x, y, rfl⟩
    obtain ⟨p1, p2, p3, p4⟩ := asx (a1, L1) (by simp)
    obtain ⟨r1, r2, r3, r4⟩ := asx (a2, L2) (by simp)
    walk_at "st"
    have t7 := g7.kp _ _ t1 (by simp)
    have dl7 := g7.kp _ _ hdl (by simp)
    have q1 : G7 a1 = some (.lst (nV L1)) := p1
    have q2 : G7 a2 = some (.lst (nV L2)) := r1
    have G3t := g03.kp _ _ t1 (by simp)
    have G3d := g03.kp _ _ hdl (by simp)
    have n1t : a1 ≠ t := (ne_of_none G3t p2).symm
    have n2t : a2 ≠ t := (ne_of_none G3t r2).symm
    have n1d : a1 ≠ dl := (ne_of_none G3d p2).symm
    have n2d : a2 ≠ dl := (ne_of_none G3d r2).symm
    refine w_tyL (SqL.of t7) ?_
    walk_at "st"
    refine w_ixL (SqL.of hsd) (atI_nat (j := 0) rfl) ?_
    walk_at "st"
    refine w_ixL (SqL.of hsd) (atI_nat (j := 1) rfl) ?_
    walk_at "st"
    intro tp n_tp
    have f_tp : Fr [] G7 (upd G7 tp (.tup [.ref a1, .ref a2])) := Fr.new n_tp
    have h_tp : (upd G7 tp (.tup [.ref a1, .ref a2])) tp = some (.tup [.ref a1, .ref a2]) := upd_same
    generalize upd G7 tp (.tup [.ref a1, .ref a2]) = G8 at *
    walk_at "st"
    have t8 := f_tp.kp _ _ t7 (by simp)
    refine w_append t8 (by rw [t2, sizeLine_eq]; omega) ?_
    have fT : Fr [t] G8 (upd G8 t (.lst (ts ++ [.ref tp]))) := Fr.at (Fr.refl _ _) (by simp) t8 rfl
    have hT : (upd G8 t (.lst (ts ++ [.ref tp]))) t = some (.lst (ts ++ [.ref tp])) := upd_same
    have g9 : Fr [] H (upd G8 t (.lst (ts ++ [.ref tp]))) := ((g.trans g7).trans f_tp).put nt
    generalize upd G8 t (.lst (ts ++ [.ref tp])) = G9 at *
    have hsd9 := fT.kp _ _ (f_tp.kp _ _ hsd (by simp)) (by
      have : sd ≠ t := (ne_of_none (g2.kp _ _ (g1.kp _ _ t1 (by simp)) (by simp)) n_sd).symm
      simpa using this)
    have dl9 := fT.kp _ _ (f_tp.kp _ _ dl7 (by simp)) (by simpa using net.symm)
    have q19 := fT.kp _ _ (f_tp.kp _ _ q1 (by simp)) (by simpa using n1t)
    have q29 := fT.kp _ _ (f_tp.kp _ _ q2 (by simp)) (by simpa using n2t)
    have ta9 : TabAt G9 t (tab ++ [(L1, L2)]) (fun a => a ≠ t ∧ a ≠ dl) :=
      ((ta.fr0 g7).fr0 f_tp).snoc t8 fT hT (fun a h => h.1) (fT.tup h_tp) q19 q29 ⟨n1t, n1d⟩ ⟨n2t, n2d⟩
    walk_at "st"
    refine w_tyL (SqL.of dl9) ?_
    walk_at "st"
    intro z1 n_z1
    have f_z1 : Fr [] G9 (upd G9 z1 (.lst [.int 0])) := Fr.new n_z1
    have h_z1 : (upd G9 z1 (.lst [.int 0])) z1 = some (.lst [.int 0]) := upd_same
    generalize upd G9 z1 (.lst [.int 0]) = G10 at *
    walk_at "st"
    refine w_ixL (SqL.of (f_z1.kp _ _ hsd9 (by simp))) (atI_nat (j := 0) rfl) ?_
    walk_at "st"
    refine w_ixL (SqL.of (f_z1.kp _ _ hsd9 (by simp))) (atI_nat (j := 1) rfl) ?_
    refine w_cat (f_z1.kp _ _ q19 (by simp)) (f_z1.kp _ _ q29 (by simp)) (by rw [nV_len, nV_len, sizeLine_eq]; have := p3; have := r3; simp only at *; omega) ?_
    intro z2 n_z2
    have f_z2 : Fr [] G10 (upd G10 z2 (.lst (nV L1 ++ nV L2))) := Fr.new n_z2
    have h_z2 : (upd G10 z2 (.lst (nV L1 ++ nV L2))) z2 = some (.lst (nV L1 ++ nV L2)) := upd_same
    generalize upd G10 z2 (.lst (nV L1 ++ nV L2)) = G11 at *
    walk_at "st"
    have ecat : nV L1 ++ nV L2 = nV (L1 ++ L2) := by unfold nV; rw [List.map_append]
    rw [ecat] at h_z2
    have dl11 := f_z2.kp _ _ (f_z1.kp _ _ dl9 (by simp)) (by simp)
    have good : ∀ m ∈ L1 ++ L2, m < tab.length ∧ dp tab m < d := fun m hm => by
      rcases List.mem_append.mp hm with h | h
      · exact p4 m h
      · exact r4 m h
    refine c_list (SqL.of h_z2) (fun D j G' => G11 D = none ∧ Fr [] G11 G' ∧ G' D = some (.lst (((L1 ++ L2).take j).map fun m => V.int (((dp tab m : Nat) : Int) + 1)))) (fun D G' n g e => ⟨n, g, e⟩) (fun D j G' _ p => SqL.of (p.2.1.kp _ _ h_z2 (by simp))) ?_ ?_
    · rintro D j x G' hx ⟨nD, g', e⟩
      obtain ⟨m, hm, rfl⟩ := nV_get hx
      have hmB := (good m (List.mem_of_getElem? hm)).1
      walk_at "st"
      refine w_ixL (SqL.of (g'.kp _ _ dl11 (by simp))) (atI_nat (v := .int (dp tab m : Nat)) (by unfold nV; rw [List.getElem?_map, evalB_get dpF 0 hmB]; rfl)) ?_
      walk_at "st"
      refine ⟨_, e, ?_, nD, g'.put nD, ?_⟩
      · rw [List.length_map, List.length_take, sizeLine_eq, List.length_append]; have := p3; have := r3; simp only at *; omega
      · rw [upd_same, List.take_add_one, hm, List.map_append, Int.add_comm]; rfl
    rintro D G12 nD ⟨_, g12, hD⟩
    rw [List.take_of_length_le (by rw [nV_len]; exact Nat.le_refl _)] at hD
    refine w_cat (g12.kp _ _ (f_z2.kp _ _ h_z1 (by simp)) (by simp)) hD (by rw [List.length_map, List.length_append, sizeLine_eq]; have := p3; have := r3; simp only [List.length_singleton] at *; omega) ?_
    intro z3 n_z3
    have f_z3 : Fr [] G12 (upd G12 z3 (.lst ([.int 0] ++ (L1 ++ L2).map fun m => V.int (((dp tab m : Nat) : Int) + 1)))) := Fr.new n_z3
    have h_z3 : (upd G12 z3 (.lst ([.int 0] ++ (L1 ++ L2).map fun m => V.int (((dp tab m : Nat) : Int) + 1)))) z3 = some (.lst ([.int 0] ++ (L1 ++ L2).map fun m => V.int (((dp tab m : Nat) : Int) + 1))) := upd_same
    generalize upd G12 z3 (.lst ([.int 0] ++ (L1 ++ L2).map fun m => V.int (((dp tab m : Nat) : Int) + 1))) = G13 at *
    walk_at "st"
    have e3 : ([.int 0] ++ (L1 ++ L2).map fun m => V.int (((dp tab m : Nat) : Int) + 1)) = ((0 : Int) :: ((L1 ++ L2).map (dp tab)).map fun (x : Nat) => ((x : Int) + 1)).map V.int := by
      rw [List.map_cons, List.map_map, List.map_map]; rfl
    rw [e3] at h_z3
    refine w_max (SqL.of h_z3) (by simp) fun mx m1 m2 => ?_
    rw [max_eq m1 m2]
    walk_at "st"
    have dl13 := f_z3.kp _ _ (g12.kp _ _ dl11 (by simp)) (by simp)
    refine w_append dl13 (by rw [nV_len, evalB_len, sizeLine_eq]; omega) ?_
    walk_at "st"
    have g13 := (((f_z1.trans f_z2).trans g12).trans f_z3)
    have fD : Fr [dl] G13 (upd G13 dl (.lst (nV (evalB dpF 0 tab) ++ [.int ((((L1 ++ L2).map (dp tab)).foldr (fun x m => max (x + 1) m) 0 : Nat) : Int)]))) := Fr.at (Fr.refl _ _) (by simp) dl13 rfl
    refine ⟨tab ++ [(L1, L2)], _, _, _, _, _, rfl, tb.snoc good ⟨p3, r3⟩, by rw [List.length_append, tl]; rfl, (ta9.fr0 g13).fr fD (by simpa using net) (fun a o _ h => ⟨by simpa using h.2, h⟩), ?_, (g9.trans g13).put ndl⟩
    rw [upd_same, eval_snoc]
    unfold nV
    simp only [List.map_append]
    rfl
end

/-! ### a table into a book -/

section
variable {P : Program} {w : World} {K : PySem.W.Frag} {mg : Str → Option Value} {base : Heap} {CB CE : Addr}
def cPut (P : Program) (w : World) (CB : Addr) : P2' := fun bk tb H Q _ => ∃ k B0 t tab N, bk = .ref k.p ∧ tb = .ref t ∧ BookAt P w CB H k B0 ∧ TabAt H t tab N ∧ (∀ (i : Nat) (r : Row), tab[i]? = some r → ∀ m ∈ r.1 ++ r.2, m < i) ∧ (∀ r ∈ tab, r.1.length ≤ 60 ∧ r.2.length ≤ 60) ∧ B0.length + tab.length ≤ 1000000 ∧
  t ∉ k.S ∧ (∀ a, N a → a ∉ k.S) ∧ ∀ p nums B H', PutI B0 tab tab.length nums B → BookAt P w CB H' k B → Fr k.S H H' → H p = none → H' p = some (.lst (nV nums)) → Q (.ref p) H'
theorem n_gam : (("game" : Str) == ("moves" : Str)) = false ∧ (("game" : Str) == ("numbers" : Str)) = false ∧ (("game" : Str) == ("depths" : Str)) = false := by decide +kernel
abbrev s__law_put : Stmt := topS 20
theorem sc__law_put : FnScope ["book", "table", "numbers", "lefts", "rights", "at"] ["book", "table"] (defScope s__law_put) := ⟨rfl, rfl, rfl, by decide +kernel, rfl, by decide +kernel, by decide +kernel⟩
theorem ok__law_put (B : Blt mg) (d_Book_game : MtOk P w K mg base (L2.CX P w) 2 CB "game" ["self", "lefts", "rights"] (sp3 (cGame P w K CB))) (S : Src K mg "_law_put" s__law_put ["book", "table"]) : DefOk P w K mg base CX0 3 "_law_put" ["book", "table"] (sp2 (cPut P w CB)) := by
  refine S.ok sc__law_put len2 fun f cdv A outer s H vs Q E hr h => ?_
  obtain ⟨bk, tb, rfl, k, B0, t, tab, N, rfl, rfl, b, ta, low, side, sz, tS, nS, q⟩ := h
  have hu := hu_of hr
  have hu64 := hr.units
  refine ⟨_, (pss_cons (ps_set (i := 2) sc__law_put.nd rfl (Or.inr rfl) (pe_lst pa_nil))
    (pss_cons (ps_for PassesOwn.never rfl (iL K (pv 1)) (gT K (pgs_cons (pg_name (i := 3) sc__law_put.nd rfl (Or.inl rfl)) (pgs_cons (pg_name (i := 4) sc__law_put.nd rfl (Or.inl rfl)) pgs_nil)))
      (pss_one (ps_expr (kBM K PySem.F.plainAttrs_list PySem.F.slot_list_append PySem.F.type_list_append mt_append (pv 2) (pa_cons (pe_mt (pv 0) d_Book_game (hr.mono (by omega)) passL (pa_cons (pe_lc (own := [("at", 5)]) (g := gName 5) (tt := tYes) rfl sc__law_put.nd (iL K (pv 3)) (blkOk_by (N := ["book", "table", "numbers", "lefts", "rights", "at"]) (sc := defScope s__law_put) (by decide +kernel)) (fun _ _ _ _ _ => by exact (pg_name (i := 5) sc__law_put.nd rfl (Or.inl rfl))) (fun _ _ _ _ _ => by exact pts_nil) (fun _ _ _ _ _ => by exact (pe_ix (ixL K) (pv 2) (pv 5) (fun _ _ => rfl)))) (pa_cons (pe_lc (own := [("at", 5)]) (g := gName 5) (tt := tYes) rfl sc__law_put.nd (iL K (pv 4)) (blkOk_by (N := ["book", "table", "numbers", "lefts", "rights", "at"]) (sc := defScope s__law_put) (by decide +kernel)) (fun _ _ _ _ _ => by exact (pg_name (i := 5) sc__law_put.nd rfl (Or.inl rfl))) (fun _ _ _ _ _ => by exact pts_nil) (fun _ _ _ _ _ => by exact (pe_ix (ixL K) (pv 2) (pv 5) (fun _ _ => rfl)))) pa_nil))) pa_nil)))))
    (pss_one (ps_ret (pv 2))))), ?_⟩
  walk_at "st"
  intro nl n_nl
  have f_nl : Fr [] H (upd H nl (.lst [])) := Fr.new n_nl
  have h_nl : (upd H nl (.lst [])) nl = some (.lst []) := upd_same
  generalize upd H nl (.lst []) = H1 at *
  walk_at "st"
  obtain ⟨ts, t1, t2, t3⟩ := ta.ex
  have nS1 : nl ∉ k.S := b.offN n_nl
  refine f_list (SqL.of (f_nl.kp _ _ t1 (by simp))) (fun i σ G => ∃ x y, σ = [some (.ref k.p), some (.ref t), some (.ref nl), x, y, none] ∧ ∃ nums Bi, PutI B0 tab i nums Bi ∧ BookAt P w CB G k Bi ∧ Fr k.S H G ∧ G nl = some (.lst (nV nums)))
    ⟨_, _, rfl, [], B0, .zero b.ok tab, b.fr0 f_nl, f_nl.of0, h_nl⟩ (fun i σ G _ ⟨_, _, _, _, _, _, _, g, _⟩ => SqL.of (g.kp _ _ t1 tS)) ?_ ?_
  rotate_left
  · rintro σ G ⟨x, y, rfl, nums, Bi, pi, bi, g, hn⟩
    walk_at "st"
    rw [t2] at pi
    exact q nl nums Bi G pi bi g n_nl hn
  · rintro i x σ G hx ⟨x1, y1, rfl, nums, Bi, pi, bi, g, hn⟩
    have hi : i < tab.length := by rw [← t2]; exact (List.getElem?_eq_some_iff.mp hx).1
    have hr0 := List.getElem?_eq_getElem hi
    generalize tab[i] = r at hr0
    obtain ⟨tp, l, r', a1, a2, a3, a4, a5, a6⟩ := t3 i r hr0
    rw [a1] at hx
    cases hx
    have hlow := low i r hr0
    have hsd := side r (List.mem_of_getElem? hr0)
    refine w_gTup2 (SqT.of (g.tup a2)) ?_
    walk_at "st"
    refine w_tyL (SqL.of hn) ?_
    walk_at "st"
    refine w_bmt bi.obj n_gam.1 n_gam.2.1 n_gam.2.2 ?_
    walk_at "st"
    have l1 := g.kp _ _ a3 (nS _ a5)
    have l2 := g.kp _ _ a4 (nS _ a6)
    refine c_list (SqL.of l1) (fun D j G' => G D = none ∧ Fr [] G G' ∧ G' D = some (.lst (nV ((r.1.take j).map (nm nums))))) (fun D G' n g e => ⟨n, g, e⟩) (fun D j G' _ p => SqL.of (p.2.1.kp _ _ l1 (by simp))) ?_ ?_
    · rintro D j x G' hx ⟨nD, g', e⟩
      obtain ⟨m, hm, rfl⟩ := nV_get hx
      have hmi : m < nums.length := by rw [pi.len]; exact hlow m (List.mem_append_left _ (List.mem_of_getElem? hm))
      walk_at "st"
      refine w_ixL (SqL.of (g'.kp _ _ hn (by simp))) (atI_nat (v := .int (nm nums m : Nat)) (by unfold nV; rw [List.getElem?_map, nm_get hmi]; rfl)) ?_
      refine ⟨_, e, ?_, nD, g'.put nD, ?_⟩
      · rw [nV_len, List.length_map, List.length_take, sizeLine_eq]; omega
      · rw [upd_same, List.take_add_one, hm]; unfold nV; simp
    rintro D1 G1 nD1 ⟨_, g1, hD1⟩
    rw [List.take_of_length_le (by rw [nV_len]; exact Nat.le_refl _)] at hD1
    walk_at "st"
    have l2' := g1.kp _ _ l2 (by simp)
    have hn1 := g1.kp _ _ hn (by simp)
    refine c_list (SqL.of l2') (fun D j G' => G1 D = none ∧ Fr [] G1 G' ∧ G' D = some (.lst (nV ((r.2.take j).map (nm nums))))) (fun D G' n g e => ⟨n, g, e⟩) (fun D j G' _ p => SqL.of (p.2.1.kp _ _ l2' (by simp))) ?_ ?_
    · rintro D j x G' hx ⟨nD, g', e⟩
      obtain ⟨m, hm, rfl⟩ := nV_get hx
      have hmi : m < nums.length := by rw [pi.len]; exact hlow m (List.mem_append_right _ (List.mem_of_getElem? hm))
      walk_at "st"
      refine w_ixL (SqL.of (g'.kp _ _ hn1 (by simp))) (atI_nat (v := .int (nm nums m : Nat)) (by unfold nV; rw [List.getElem?_map, nm_get hmi]; rfl)) ?_
      refine ⟨_, e, ?_, nD, g'.put nD, ?_⟩
      · rw [nV_len, List.length_map, List.length_take, sizeLine_eq]; omega
      · rw [upd_same, List.take_add_one, hm]; unfold nV; simp
    rintro D2 G2 nD2 ⟨_, g2, hD2⟩
    rw [List.take_of_length_le (by rw [nV_len]; exact Nat.le_refl _)] at hD2
    walk_at "st"
    have g12 := g1.trans g2
    have b2 := bi.fr0 g12
    have psz := pi.size
    refine ⟨k, Bi, D1, D2, r.1.map (nm nums), r.2.map (nm nums), rfl, rfl, rfl, b2, by omega, SqL.of (g2.kp _ _ hD1 (by simp)), SqL.of hD2, by rw [List.length_map]; exact hsd.1, by rw [List.length_map]; exact hsd.2, fun m hm => ?_, fun G3 b3 g3 => ?_⟩
    · rw [← List.map_append] at hm
      obtain ⟨j, hj, rfl⟩ := List.mem_map.mp hm
      exact pi.low _ (nm_mem (by rw [pi.len]; exact hlow j hj))
    · have hn3 := g3.kp _ _ (g12.kp _ _ hn (by simp)) nS1
      walk_at "st"
      refine w_append hn3 (by rw [nV_len, pi.len, sizeLine_eq]; omega) ?_
      have f3 : Fr [nl] G3 (upd G3 nl (.lst (nV nums ++ [.int ((put Bi (nrm (r.1.map (nm nums)), nrm (r.2.map (nm nums)))).2 : Nat)]))) := Fr.at (Fr.refl _ _) (by simp) hn3 rfl
      refine ⟨_, _, rfl, _, _, pi.step hr0 low, b3.fr f3 (fun a ha => by simp; intro z; subst z; exact nS1 ha), ((g.trans g12.of0).trans g3).put n_nl, ?_⟩
      rw [upd_same]; unfold nV; rw [List.map_append]; rfl
end

/-! ### rows laid on a table -/

section
variable {P : Program} {w : World} {K : PySem.W.Frag} {mg : Str → Option Value} {base : Heap} {CB CE : Addr}
def cMore : P3' := fun sto tb rw_ H Q _ => ∃ st t tab, ∃ R : Nat, sto = .ref st ∧ tb = .ref t ∧ rw_ = .int (R : Int) ∧ StAt H st ∧ TabAt H t tab (fun a => a ≠ t ∧ a ≠ st) ∧ st ≠ t ∧ Tb 3 3 tab ∧ tab.length ≤ 1000 ∧ R ≤ 1000 ∧
  ∀ tab' H', MoreI tab R tab' → Fr [st, t] H H' → StAt H' st → TabAt H' t tab' (fun a => a ≠ t ∧ a ≠ st) → Q .non H'
theorem StAt.fr {S : List Addr} {H H' : Hp} {p : Addr} (h : StAt H p) (f : Fr S H H') (n : p ∉ S) : StAt H' p := by
  obtain ⟨a, b, c, e⟩ := h
  exact ⟨a, b, c, f.kp _ _ e n⟩
abbrev s__law_more : Stmt := topS 21
theorem sc__law_more : FnScope ["store", "table", "rows", "depths", "lefts", "rights", "low", "sides", "turn", "k", "at", "j"] ["store", "table", "rows"] (defScope s__law_more) := ⟨rfl, rfl, rfl, by decide +kernel, rfl, by decide +kernel, by decide +kernel⟩
theorem ok__law_more (B : Blt mg) (d__law_take : DefOk P w K mg base CX0 1 "_law_take" ["store", "many"] (sp2 cTake)) (S : Src K mg "_law_more" s__law_more ["store", "table", "rows"]) : DefOk P w K mg base CX0 2 "_law_more" ["store", "table", "rows"] (sp3 cMore) := by
  refine S.ok sc__law_more len3 fun f cdv A outer s H vs Q E hr h => ?_
  obtain ⟨sto, tb, rw_, rfl, st, t, tab, R, rfl, rfl, rfl, hst, ta, nst, tb, tl, hR, q⟩ := h
  have hu := hu_of hr
  have hu64 := hr.units
  refine ⟨_, (pss_cons (ps_set (i := 3) sc__law_more.nd rfl (Or.inr rfl) (pe_lst pa_nil))
    (pss_cons (ps_for PassesOwn.never rfl (iL K (pv 1)) (gT K (pgs_cons (pg_name (i := 4) sc__law_more.nd rfl (Or.inl rfl)) (pgs_cons (pg_name (i := 5) sc__law_more.nd rfl (Or.inl rfl)) pgs_nil)))
      (pss_one (ps_expr (kBM K PySem.F.plainAttrs_list PySem.F.slot_list_append PySem.F.type_list_append mt_append (pv 3) (pa_cons (pe_callB (cMax K) (by rfl) B.k_max bb_max (pa_cons (pe_op op_cat (pe_lst (pa_cons pe_int pa_nil)) (pe_lc (own := [("at", 10)]) (g := gName 10) (tt := tYes) rfl sc__law_more.nd (iL K (pe_op op_cat (pv 4) (pv 5))) (blkOk_by (N := ["store", "table", "rows", "depths", "lefts", "rights", "low", "sides", "turn", "k", "at", "j"]) (sc := defScope s__law_more) (by decide +kernel)) (fun _ _ _ _ _ => by exact (pg_name (i := 10) sc__law_more.nd rfl (Or.inl rfl))) (fun _ _ _ _ _ => by exact pts_nil) (fun _ _ _ _ _ => by exact (pe_op op_add pe_int (pe_ix (ixL K) (pv 3) (pv 10) (fun _ _ => rfl)))))) pa_nil)) pa_nil)))))
    (pss_cons (ps_set (i := 6) sc__law_more.nd rfl (Or.inr rfl) (pe_lc (own := [("at", 10)]) (g := gName 10) rfl sc__law_more.nd (pi_range1 (by rfl) B.k_range (pa_cons (pe_callB (cLen K) (by rfl) B.k_len bb_len (pa_cons (pv 1) pa_nil)) pa_nil)) (blkOk_by (N := ["store", "table", "rows", "depths", "lefts", "rights", "low", "sides", "turn", "k", "at", "j"]) (sc := defScope s__law_more) (by decide +kernel)) (fun _ _ _ _ _ => by exact (pg_name (i := 10) sc__law_more.nd rfl (Or.inl rfl))) (fun _ _ _ _ _ => by exact (pts_one (pt_cmpR op_lt (pe_ix (ixL K) (pv 3) (pv 10) (fun _ _ => rfl)) pe_int (nomark _)))) (fun _ _ _ _ _ => by exact (pv 10))))
    (pss_cons (ps_set (i := 7) sc__law_more.nd rfl (Or.inl rfl) (pe_lst pa_nil))
    (pss_cons (ps_for PassesOwn.never rfl (pi_range1 (by rfl) B.k_range (pa_cons pe_int pa_nil)) (pg_name (i := 8) sc__law_more.nd rfl (Or.inl rfl))
      (pss_one (ps_expr (kBM K PySem.F.plainAttrs_list PySem.F.slot_list_append PySem.F.type_list_append mt_append (pv 7) (pa_cons (pe_lc (own := [("j", 11)]) (g := gName 11) (tt := tYes) rfl sc__law_more.nd (pi_range1 (by rfl) B.k_range (pa_cons (pe_fn d__law_take (hr.mono (by omega)) pass0 (pa_cons (pv 0) (pa_cons pe_int pa_nil))) pa_nil)) (blkOk_by (N := ["store", "table", "rows", "depths", "lefts", "rights", "low", "sides", "turn", "k", "at", "j"]) (sc := defScope s__law_more) (by decide +kernel)) (fun _ _ _ _ _ => by exact (pg_name (i := 11) sc__law_more.nd rfl (Or.inl rfl))) (fun _ _ _ _ _ => by exact pts_nil) (fun _ _ _ _ _ => by exact (pe_ix (ixL K) (pv 6) (pe_fn d__law_take (hr.mono (by omega)) pass0 (pa_cons (pv 0) (pa_cons (pe_callB (cLen K) (by rfl) B.k_len bb_len (pa_cons (pv 6) pa_nil)) pa_nil))) (fun _ _ => rfl)))) pa_nil)))))
    (pss_cons (ps_expr (kBM K PySem.F.plainAttrs_list PySem.F.slot_list_append PySem.F.type_list_append mt_append (pv 1) (pa_cons (pe_tup (pa_cons (pe_ix (ixL K) (pv 7) pe_int (fun _ _ => rfl)) (pa_cons (pe_ix (ixL K) (pv 7) pe_int (fun _ _ => rfl)) pa_nil))) pa_nil)))
    (pss_one (ps_for PassesOwn.never rfl (pi_range1 (by rfl) B.k_range (pa_cons (pv 2) pa_nil)) (pg_name (i := 9) sc__law_more.nd rfl (Or.inl rfl))
      (pss_cons (ps_set (i := 7) sc__law_more.nd rfl (Or.inl rfl) (pe_lst (pa_cons (pe_lst (pa_cons (pe_op op_sub (pe_callB (cLen K) (by rfl) B.k_len bb_len (pa_cons (pv 1) pa_nil)) pe_int) pa_nil)) (pa_cons (pe_lst pa_nil) pa_nil))))
      (pss_cons (ps_if (pt_cmpR op_eq (pe_fn d__law_take (hr.mono (by omega)) pass0 (pa_cons (pv 0) (pa_cons pe_int pa_nil))) pe_int (nomark _))
        (pss_one (ps_expr (kBM K PySem.F.plainAttrs_list PySem.F.slot_list_append PySem.F.type_list_append mt_append (pe_ix (ixL K) (pv 7) (pe_fn d__law_take (hr.mono (by omega)) pass0 (pa_cons (pv 0) (pa_cons pe_int pa_nil))) (fun _ _ => rfl)) (pa_cons (pe_ix (ixL K) (pv 6) (pe_fn d__law_take (hr.mono (by omega)) pass0 (pa_cons (pv 0) (pa_cons (pe_callB (cLen K) (by rfl) B.k_len bb_len (pa_cons (pv 6) pa_nil)) pa_nil))) (fun _ _ => rfl)) pa_nil))))
        pss_nil)
      (pss_cons (ps_set (i := 8) sc__law_more.nd rfl (Or.inl rfl) (pe_fn d__law_take (hr.mono (by omega)) pass0 (pa_cons (pv 0) (pa_cons pe_int pa_nil))))
      (pss_one (ps_expr (kBM K PySem.F.plainAttrs_list PySem.F.slot_list_append PySem.F.type_list_append mt_append (pv 1) (pa_cons (pe_tup (pa_cons (pe_ix (ixL K) (pv 7) (pv 8) (fun _ _ => rfl)) (pa_cons (pe_ix (ixL K) (pv 7) (pe_op op_sub pe_int (pv 8)) (fun _ _ => rfl)) pa_nil))) pa_nil))))))))))))))), ?_⟩
  walk_at "st"
  intro dl n_dl
  have f_dl : Fr [] H (upd H dl (.lst [])) := Fr.new n_dl
  have h_dl : (upd H dl (.lst [])) dl = some (.lst []) := upd_same
  generalize upd H dl (.lst []) = H1 at *
  walk_at "st"
  obtain ⟨ts, t1, t2, t3⟩ := ta.ex
  -- depths
  refine f_list (SqL.of (f_dl.kp _ _ t1 (by simp))) (fun i σ G => ∃ x y, σ = [some (.ref st), some (.ref t), some (.int (R : Int)), some (.ref dl), x, y, none, none, none, none, none, none] ∧ Fr [] H G ∧ G dl = some (.lst (nV ((evalB dpF 0 tab).take i))))
    ⟨_, _, rfl, f_dl, h_dl⟩ (fun i σ G _ ⟨_, _, _, g, _⟩ => SqL.of (g.kp _ _ t1 (by simp))) ?_ ?_
  · rintro i x σ G hx ⟨x1, y1, rfl, g, hdl⟩
    have hi : i < tab.length := by rw [← t2]; exact (List.getElem?_eq_some_iff.mp hx).1
    have hr0 := List.getElem?_eq_getElem hi
    generalize tab[i] = r at hr0
    obtain ⟨tp, l, r', a1, a2, a3, a4, a5, a6⟩ := t3 i r hr0
    rw [a1] at hx
    cases hx
    have hlow := tb.low i r hr0
    have hsd := tb.side r (List.mem_of_getElem? hr0)
    refine w_gTup2 (SqT.of (g.tup a2)) ?_
    walk_at "st"
    refine w_tyL (SqL.of hdl) ?_
    walk_at "st"
    intro z1 n_z1
    have f_z1 : Fr [] G (upd G z1 (.lst [.int 0])) := Fr.new n_z1
    have h_z1 : (upd G z1 (.lst [.int 0])) z1 = some (.lst [.int 0]) := upd_same
    generalize upd G z1 (.lst [.int 0]) = G1 at *
    walk_at "st"
    have fz1 := g.trans f_z1
    refine w_cat (fz1.kp _ _ a3 (by simp)) (fz1.kp _ _ a4 (by simp)) (by rw [nV_len, nV_len, sizeLine_eq]; omega) ?_
    intro z2 n_z2
    have f_z2 : Fr [] G1 (upd G1 z2 (.lst (nV r.1 ++ nV r.2))) := Fr.new n_z2
    have h_z2 : (upd G1 z2 (.lst (nV r.1 ++ nV r.2))) z2 = some (.lst (nV r.1 ++ nV r.2)) := upd_same
    generalize upd G1 z2 (.lst (nV r.1 ++ nV r.2)) = G2 at *
    walk_at "st"
    have ecat : nV r.1 ++ nV r.2 = nV (r.1 ++ r.2) := by unfold nV; rw [List.map_append]
    rw [ecat] at h_z2
    have hdl2 := f_z2.kp _ _ (f_z1.kp _ _ hdl (by simp)) (by simp)
    refine c_list (SqL.of h_z2) (fun D j G' => G2 D = none ∧ Fr [] G2 G' ∧ G' D = some (.lst (((r.1 ++ r.2).take j).map fun m => V.int (((dp tab m : Nat) : Int) + 1)))) (fun D G' n g e => ⟨n, g, e⟩) (fun D j G' _ p => SqL.of (p.2.1.kp _ _ h_z2 (by simp))) ?_ ?_
    · rintro D j x G' hx ⟨nD, g', e⟩
      obtain ⟨m, hm, rfl⟩ := nV_get hx
      have hmi := hlow m (List.mem_of_getElem? hm)
      walk_at "st"
      refine w_ixL (SqL.of (g'.kp _ _ hdl2 (by simp))) (atI_nat (v := .int (dp tab m : Nat)) (by unfold nV; rw [List.getElem?_map, List.getElem?_take, if_pos hmi, evalB_get dpF 0 (by omega)]; rfl)) ?_
      walk_at "st"
      refine ⟨_, e, ?_, nD, g'.put nD, ?_⟩
      · rw [List.length_map, List.length_take, sizeLine_eq, List.length_append]; omega
      · rw [upd_same, List.take_add_one, hm, List.map_append, Int.add_comm]; rfl
    rintro D G3 nD ⟨_, g3, hD⟩
    rw [List.take_of_length_le (by rw [nV_len]; exact Nat.le_refl _)] at hD
    refine w_cat (g3.kp _ _ (f_z2.kp _ _ h_z1 (by simp)) (by simp)) hD (by rw [List.length_map, List.length_append, sizeLine_eq]; simp only [List.length_singleton]; omega) ?_
    intro z3 n_z3
    have f_z3 : Fr [] G3 (upd G3 z3 (.lst ([.int 0] ++ (r.1 ++ r.2).map fun m => V.int (((dp tab m : Nat) : Int) + 1)))) := Fr.new n_z3
    have h_z3 : (upd G3 z3 (.lst ([.int 0] ++ (r.1 ++ r.2).map fun m => V.int (((dp tab m : Nat) : Int) + 1)))) z3 = some (.lst ([.int 0] ++ (r.1 ++ r.2).map fun m => V.int (((dp tab m : Nat) : Int) + 1))) := upd_same
    generalize upd G3 z3 (.lst ([.int 0] ++ (r.1 ++ r.2).map fun m => V.int (((dp tab m : Nat) : Int) + 1))) = G4 at *
    walk_at "st"
    have e3 : ([.int 0] ++ (r.1 ++ r.2).map fun m => V.int (((dp tab m : Nat) : Int) + 1)) = ((0 : Int) :: ((r.1 ++ r.2).map (dp tab)).map fun (x : Nat) => ((x : Int) + 1)).map V.int := by
      rw [List.map_cons, List.map_map, List.map_map]; rfl
    rw [e3] at h_z3
    refine w_max (SqL.of h_z3) (by simp) fun mx m1 m2 => ?_
    rw [max_eq m1 m2]
    walk_at "st"
    have hdl4 := f_z3.kp _ _ (g3.kp _ _ hdl2 (by simp)) (by simp)
    refine w_append hdl4 (by rw [nV_len, List.length_take, evalB_len, sizeLine_eq]; omega) ?_
    refine ⟨_, _, rfl, (((fz1.trans f_z2).trans g3).trans f_z3).put n_dl, ?_⟩
    rw [upd_same, List.take_add_one, evalB_get dpF 0 hi]
    have e4 : val dpF 0 tab i = ((r.1 ++ r.2).map (dp tab)).foldr (fun x m => max (x + 1) m) 0 := by
      rw [val_eqL dpF 0 tb.low hr0, List.map_append]; rfl
    rw [e4]
    unfold nV
    simp only [List.map_append]
    rfl
  rintro σ G ⟨x4, x5, rfl, g, hdl⟩
  rw [List.take_of_length_le (by rw [t2, evalB_len]; exact Nat.le_refl _)] at hdl
  walk_at "st"
  have t1g := g.kp _ _ t1 (by simp)
  refine w_lenL (SqL.of t1g) ?_
  refine c_rng1 (n := tab.length) (by rw [t2]) (by omega) (fun D j G' => G D = none ∧ Fr [] G G' ∧ G' D = some (.lst (nV (lowN tab 3 j)))) (fun D G' n g e => ⟨n, g, e⟩) ?_ ?_
  · rintro D j G' hj ⟨nD, g', e⟩
    walk_at "st"
    refine w_ixL (SqL.of (g'.kp _ _ hdl (by simp))) (atI_nat (v := .int (dp tab j : Nat)) (by unfold nV; rw [List.getElem?_map, evalB_get dpF 0 hj]; rfl)) ?_
    walk_at "st"
    refine w_dec (fun c => ?_) fun c => ?_
    · walk_at "st"
      refine ⟨_, e, ?_, nD, g'.put nD, ?_⟩
      · rw [nV_len, sizeLine_eq]; have := lowN_len tab 3 j; omega
      · rw [upd_same, lowN_succ, if_pos (by omega)]; unfold nV; simp
    · refine ⟨nD, g', ?_⟩
      rw [lowN_succ, if_neg (by omega), List.append_nil]; exact e
  rintro lo G2 nlo ⟨_, g2, hlo⟩
  have lpos : 0 < (lowN tab 3 tab.length).length := lowN_pos tb (by decide) tb.pos
  have llen := lowN_len tab 3 tab.length
  have lmem : ∀ m ∈ lowN tab 3 tab.length, m < tab.length ∧ dp tab m < 3 := fun m hm => lowN_mem hm
  generalize lowN tab 3 tab.length = lw at *
  walk_at "st"
  intro sd n_sd
  have f_sd : Fr [] G2 (upd G2 sd (.lst [])) := Fr.new n_sd
  have h_sd : (upd G2 sd (.lst [])) sd = some (.lst []) := upd_same
  generalize upd G2 sd (.lst []) = G3 at *
  walk_at "st"
  have gH2 := g.trans g2
  have gH3 := gH2.trans f_sd
  obtain ⟨sg, sy, sT, hst0⟩ := hst
  have hst2 := gH2.kp _ _ hst0 (by simp)
  have hst3 := f_sd.kp _ _ hst2 (by simp)
  have hlo3 := f_sd.kp _ _ hlo (by simp)
  have slo : lo ≠ st := (ne_of_none (g.kp _ _ hst0 (by simp)) nlo).symm
  have tlo : lo ≠ t := (ne_of_none t1g nlo).symm
  have ssd : sd ≠ st := (ne_of_none hst2 n_sd).symm
  have tsd : sd ≠ t := (ne_of_none (gH2.kp _ _ t1 (by simp)) n_sd).symm
  have sdlo : sd ≠ lo := (ne_of_none hlo n_sd).symm
  refine f_rng1 (n := 2) rfl (by omega) (fun i' σ G' => ∃ x, σ = [some (.ref st), some (.ref t), some (.int (R : Int)), some (.ref dl), x4, x5, some (.ref lo), some (.ref sd), x, none, none, none] ∧ Fr [st] G2 G' ∧ (∀ a, G' a = none → G3 a = none) ∧ StAt G' st ∧ G' lo = some (.lst (nV lw)) ∧ ∃ as : List (Addr × List Nat), G' sd = some (.lst (as.map fun x => .ref x.1)) ∧ as.length = i' ∧ ∀ x ∈ as, G' x.1 = some (.lst (nV x.2)) ∧ G3 x.1 = none ∧ x.2.length ≤ 8 ∧ ∀ m ∈ x.2, m < tab.length ∧ dp tab m < 3)
    ⟨_, rfl, f_sd.of0, fun _ h => h, ⟨_, _, _, hst3⟩, hlo3, [], h_sd, rfl, by simp⟩ ?_ ?_
  · rintro i' σ G' hi' ⟨x, rfl, gT, frT, hstT, hloT, as, hsd, asl, asx⟩
    walk_at "st"
    refine w_tyL (SqL.of hsd) ?_
    walk_at "st"
    refine ⟨st, 9, rfl, rfl, by omega, by omega, hstT, fun z hz G5 g5 hst5 => ?_⟩
    walk_at "st"
    have hlo5 := g5.kp _ _ hloT (by simpa using slo)
    refine c_rng1 (n := z) rfl (by omega) (fun D j G' => G5 D = none ∧ Fr [st] G5 G' ∧ StAt G' st ∧ ∃ L : List Nat, G' D = some (.lst (nV L)) ∧ L.length = j ∧ ∀ m ∈ L, m < tab.length ∧ dp tab m < 3)
      (fun D G' n g e => ⟨n, g.of0, hst5.fr g (by simp), [], e, rfl, by simp⟩) ?_ ?_
    · rintro D j G' hj ⟨nD, g, hs', L, e, eL, eg⟩
      walk_at "st"
      have hlo' := g.kp _ _ hlo5 (by simpa using slo)
      refine w_lenL (SqL.of hlo') ?_
      walk_at "st"
      refine ⟨st, lw.length, rfl, by rw [nV_len], lpos, by omega, hs', fun z' hz' G6 g6 hst6 => ?_⟩
      refine w_ixL (SqL.of (g6.kp _ _ hlo' (by simpa using slo))) (atI_nat (v := .int (lw[z'] : Nat)) (by unfold nV; rw [List.getElem?_map, List.getElem?_eq_getElem hz']; rfl)) ?_
      have Dst : D ≠ st := by
        obtain ⟨_, _, _, e⟩ := hst5
        exact (ne_of_none e nD).symm
      have e6 := g6.kp _ _ e (by simpa using Dst)
      refine ⟨_, e6, ?_, nD, (g.trans g6).put nD, ?_, L ++ [lw[z']], ?_, ?_, ?_⟩
      · rw [nV_len, sizeLine_eq]; omega
      · obtain ⟨a, b, c, e⟩ := hst6; exact ⟨a, b, c, by rw [upd_ne Dst.symm]; exact e⟩
      · rw [upd_same]; unfold nV; rw [List.map_append]; rfl
      · rw [List.length_append, List.length_singleton, eL]
      · intro m hm
        rcases List.mem_append.mp hm with h | h
        · exact eg m h
        · rw [List.mem_singleton.mp h]; exact lmem _ (List.getElem_mem hz')
    rintro D G6 nD ⟨nD5, g6, hst6, L, hD, eL, eg⟩
    have gst : Fr [st] G' G6 := g5.trans g6
    walk_at "st"
    have hsd6 := gst.kp _ _ hsd (by simpa using ssd)
    refine w_append hsd6 (by rw [List.length_map, asl, sizeLine_eq]; omega) ?_
    walk_at "st"
    have D3 : G3 D = none := frT _ (g5.fr _ nD5)
    have Dsd : D ≠ sd := (ne_of_none (g5.kp _ _ hsd (by simpa using ssd)) nD5).symm
    refine ⟨_, rfl, (gT.trans gst).put n_sd, fun a ha => ?_, ?_, ?_, as ++ [(D, L)], ?_, ?_, ?_⟩
    · by_cases e : a = sd
      · subst e; rw [upd_same] at ha; cases ha
      · rw [upd_ne e] at ha; exact frT _ (gst.fr _ ha)
    · obtain ⟨a, b, c, e⟩ := hst6; exact ⟨a, b, c, by rw [upd_ne ssd.symm]; exact e⟩
    · rw [upd_ne sdlo.symm]; exact gst.kp _ _ hloT (by simpa using slo)
    · rw [upd_same, List.map_append]; rfl
    · rw [List.length_append, List.length_singleton, asl]
    · intro x hx
      rcases List.mem_append.mp hx with h | h
      · obtain ⟨a1, a2, a3, a4⟩ := asx x h
        have n1 : x.1 ≠ st := (ne_of_none hst3 a2).symm
        have n2 : x.1 ≠ sd := (ne_of_none h_sd a2).symm
        exact ⟨by rw [upd_ne n2]; exact gst.kp _ _ a1 (by simpa using n1), a2, a3, a4⟩
      · rw [List.mem_singleton.mp h]
        exact ⟨by rw [upd_ne Dsd]; exact hD, D3, by show L.length ≤ 8; omega, eg⟩
  rintro σ G7 ⟨x8, rfl, g7, _, hst7, hlo7, as, hsd, asl, asx⟩
  obtain ⟨⟨a1, L1⟩, ⟨a2, L2⟩, rfl⟩ : ∃ x y, as = [x, y] := by
    match as, asl with
    | [x, y], _ => exact ⟨x, y, rfl⟩
  obtain ⟨p1, p2, p3, p4⟩ := asx (a1, L1) (by simp)
  obtain ⟨r1, r2, r3, r4⟩ := asx (a2, L2) (by simp)
  walk_at "st"
  have st' : t ∉ [st] := by simpa using nst.symm
  have t7 := g7.kp _ _ (gH2.kp _ _ t1 (by simp)) st'
  have q1 : G7 a1 = some (.lst (nV L1)) := p1
  have q2 : G7 a2 = some (.lst (nV L2)) := r1
  have G3t := gH3.kp _ _ t1 (by simp)
  have n1t : a1 ≠ t := (ne_of_none G3t p2).symm
  have n2t : a2 ≠ t := (ne_of_none G3t r2).symm
  have n1s : a1 ≠ st := (ne_of_none hst3 p2).symm
  have n2s : a2 ≠ st := (ne_of_none hst3 r2).symm
  refine w_tyL (SqL.of t7) ?_
  walk_at "st"
  refine w_ixL (SqL.of hsd) (atI_nat (j := 0) rfl) ?_
  walk_at "st"
  refine w_ixL (SqL.of hsd) (atI_nat (j := 1) rfl) ?_
  walk_at "st"
  intro tp n_tp
  have f_tp : Fr [] G7 (upd G7 tp (.tup [.ref a1, .ref a2])) := Fr.new n_tp
  have h_tp : (upd G7 tp (.tup [.ref a1, .ref a2])) tp = some (.tup [.ref a1, .ref a2]) := upd_same
  generalize upd G7 tp (.tup [.ref a1, .ref a2]) = G8 at *
  walk_at "st"
  have t8 := f_tp.kp _ _ t7 (by simp)
  refine w_append t8 (by rw [t2, sizeLine_eq]; omega) ?_
  have fT : Fr [t] G8 (upd G8 t (.lst (ts ++ [.ref tp]))) := Fr.at (Fr.refl _ _) (by simp) t8 rfl
  have hT : (upd G8 t (.lst (ts ++ [.ref tp]))) t = some (.lst (ts ++ [.ref tp])) := upd_same
  generalize upd G8 t (.lst (ts ++ [.ref tp])) = G9 at *
  have ta9 : TabAt G9 t (tab ++ [(L1, L2)]) (fun a => a ≠ t ∧ a ≠ st) :=
    (((ta.fr0 gH2).fr g7 st' fun a o _ h => ⟨by simpa using h.2, h⟩).fr0 f_tp).snoc t8 fT hT (fun a h => h.1) (fT.tup h_tp) (fT.kp _ _ (f_tp.kp _ _ q1 (by simp)) (by simpa using n1t)) (fT.kp _ _ (f_tp.kp _ _ q2 (by simp)) (by simpa using n2t)) ⟨n1t, n1s⟩ ⟨n2t, n2s⟩
  have mo9 : MoreI tab 0 (tab ++ [(L1, L2)]) := .zero tb p3 r3 fun m hm => by
    rcases List.mem_append.mp hm with h | h
    · exact p4 m h
    · exact r4 m h
  have m1 : ∀ a ∈ [st], a ∈ [st, t] := by simp
  have m2 : ∀ a ∈ [t], a ∈ [st, t] := by simp
  have g9 : Fr [st, t] H G9 := (((gH2.of0).trans (g7.mono m1)).trans (f_tp.of0)).trans (fT.mono m2)
  have st9 : StAt G9 st := (hst7.fr f_tp (by simp)).fr fT (by simpa using nst)
  have lo9 : G9 lo = some (.lst (nV lw)) := fT.kp _ _ (f_tp.kp _ _ hlo7 (by simp)) (by simpa using tlo)
  walk_at "st"
  refine f_rng1 (n := R) rfl (by omega) (fun i σ G => ∃ tab' x7 x8 x9, σ = [some (.ref st), some (.ref t), some (.int (R : Int)), some (.ref dl), x4, x5, some (.ref lo), x7, x8, x9, none, none] ∧ MoreI tab i tab' ∧ TabAt G t tab' (fun a => a ≠ t ∧ a ≠ st) ∧ StAt G st ∧ G lo = some (.lst (nV lw)) ∧ Fr [st, t] H G)
    ⟨_, _, _, _, rfl, mo9, ta9, st9, lo9, g9⟩ ?_ ?_
  rotate_left
  · rintro σ G ⟨tab', x7, x8, x9, rfl, mo, ta, hst, _, g⟩
    exact q tab' G mo g hst ta
  · rintro i σ G hi ⟨tab', x7, x8, x9, rfl, mo, ta, hst, hlo, g⟩
    walk_at "st"
    obtain ⟨us, u1, u2, _⟩ := ta.ex
    have ml := mo.len
    refine w_lenL (SqL.of u1) ?_
    walk_at "st"
    have eT : ((us.length : Nat) : Int) - 1 = ((tab'.length - 1 : Nat) : Int) := by rw [u2]; omega
    rw [eT]
    intro a n_a
    have f_a : Fr [] G (upd G a (.lst [.int ((tab'.length - 1 : Nat) : Int)])) := Fr.new n_a
    have h_a : (upd G a (.lst [.int ((tab'.length - 1 : Nat) : Int)])) a = some (.lst [.int ((tab'.length - 1 : Nat) : Int)]) := upd_same
    generalize upd G a (.lst [.int ((tab'.length - 1 : Nat) : Int)]) = G1 at *
    walk_at "st"
    intro c n_c
    have f_c : Fr [] G1 (upd G1 c (.lst [])) := Fr.new n_c
    have h_c : (upd G1 c (.lst [])) c = some (.lst []) := upd_same
    generalize upd G1 c (.lst []) = G2 at *
    walk_at "st"
    intro sd n_sd
    have f_sd : Fr [] G2 (upd G2 sd (.lst [.ref a, .ref c])) := Fr.new n_sd
    have h_sd : (upd G2 sd (.lst [.ref a, .ref c])) sd = some (.lst [.ref a, .ref c]) := upd_same
    generalize upd G2 sd (.lst [.ref a, .ref c]) = G3 at *
    have g3 := (f_a.trans f_c).trans f_sd
    have hst3 : StAt G3 st := hst.fr g3 (by simp)
    have hlo3 := g3.kp _ _ hlo (by simp)
    have u3 := g3.kp _ _ u1 (by simp)
    have ha3 := f_sd.kp _ _ (f_c.kp _ _ h_a (by simp)) (by simp)
    have hc3 := f_sd.kp _ _ h_c (by simp)
    obtain ⟨_, _, _, est⟩ := hst
    have as : a ≠ st := (ne_of_none est n_a).symm
    have at_ : a ≠ t := (ne_of_none u1 n_a).symm
    have cs : c ≠ st := (ne_of_none (f_a.kp _ _ est (by simp)) n_c).symm
    have ct : c ≠ t := (ne_of_none (f_a.kp _ _ u1 (by simp)) n_c).symm
    have ca : a ≠ c := ne_of_none h_a n_c
    have ss : sd ≠ st := (ne_of_none (f_c.kp _ _ (f_a.kp _ _ est (by simp)) (by simp)) n_sd).symm
    have sa : a ≠ sd := ne_of_none (f_c.kp _ _ h_a (by simp)) n_sd
    have sc : c ≠ sd := ne_of_none h_c n_sd
    have nsd : G sd = none := f_a.fr _ (f_c.fr _ n_sd)
    have nc : G c = none := f_a.fr _ n_c
    have al : a ≠ lo := (ne_of_none hlo n_a).symm
    have clo : c ≠ lo := (ne_of_none (f_a.kp _ _ hlo (by simp)) n_c).symm
    refine w_name ?_
    refine w_cut (fun σ' G' => ∃ A C, σ' = [some (.ref st), some (.ref t), some (.int (R : Int)), some (.ref dl), x4, x5, some (.ref lo), some (.ref sd), x8, some (.int (i : Int)), none, none] ∧ Ch (tab'.length - 1) lw A C ∧ G' a = some (.lst (nV A)) ∧ G' c = some (.lst (nV C)) ∧ G' sd = some (.lst [.ref a, .ref c]) ∧ StAt G' st ∧ G' lo = some (.lst (nV lw)) ∧ Fr [st] G G') ?_ fun nx' hnx => ?_
    rotate_left
    · walk_at "st"
      refine ⟨st, 2, rfl, rfl, by omega, by omega, hst3, fun z hz G4 g4 hst4 => ?_⟩
      walk_at "st"
      have ha4 := g4.kp _ _ ha3 (by simpa using as)
      have hc4 := g4.kp _ _ hc3 (by simpa using cs)
      have hs4 := g4.kp _ _ h_sd (by simpa using ss)
      have hl4 := g4.kp _ _ hlo3 (by simpa using slo)
      have g04 : Fr [st] G G4 := g3.of0.trans g4
      refine w_dec (fun c0 => ?_) fun c0 => ?_
      · walk_at "st"
        refine ⟨st, 2, rfl, rfl, by omega, by omega, hst4, fun z2 hz2 G5 g5 hst5 => ?_⟩
        have ha5 := g5.kp _ _ ha4 (by simpa using as)
        have hc5 := g5.kp _ _ hc4 (by simpa using cs)
        have hs5 := g5.kp _ _ hs4 (by simpa using ss)
        have hl5 := g5.kp _ _ hl4 (by simpa using slo)
        have z2c : z2 = 0 ∨ z2 = 1 := by omega
        rcases z2c with rfl | rfl
        · refine w_ixL (SqL.of hs5) (atI_nat (j := 0) rfl) ?_
          refine w_tyL (SqL.of ha5) ?_
          walk_at "st"
          refine w_lenL (SqL.of hl5) ?_
          walk_at "st"
          refine ⟨st, lw.length, rfl, by rw [nV_len], lpos, by omega, hst5, fun z' hz' G6 g6 hst6 => ?_⟩
          refine w_ixL (SqL.of (g6.kp _ _ hl5 (by simpa using slo))) (atI_nat (v := .int (lw[z'] : Nat)) (by unfold nV; rw [List.getElem?_map, List.getElem?_eq_getElem hz']; rfl)) ?_
          walk_at "st"
          have ha6 := g6.kp _ _ ha5 (by simpa using as)
          refine w_append ha6 (by rw [sizeLine_eq]; simp) ?_
          refine hnx _ _ ⟨[tab'.length - 1, lw[z']], [], rfl, .two (List.getElem_mem hz'), ?_, ?_, ?_, ?_, ?_, ((g04.trans g5).trans g6).put n_a⟩
          · rw [upd_same]; rfl
          · rw [upd_ne ca.symm]; exact g6.kp _ _ hc5 (by simpa using cs)
          · rw [upd_ne sa.symm]; exact g6.kp _ _ hs5 (by simpa using ss)
          · obtain ⟨x, y, z, e⟩ := hst6; exact ⟨x, y, z, by rw [upd_ne as.symm]; exact e⟩
          · rw [upd_ne al.symm]; exact g6.kp _ _ hl5 (by simpa using slo)
        · refine w_ixL (SqL.of hs5) (atI_nat (j := 1) rfl) ?_
          refine w_tyL (SqL.of hc5) ?_
          walk_at "st"
          refine w_lenL (SqL.of hl5) ?_
          walk_at "st"
          refine ⟨st, lw.length, rfl, by rw [nV_len], lpos, by omega, hst5, fun z' hz' G6 g6 hst6 => ?_⟩
          refine w_ixL (SqL.of (g6.kp _ _ hl5 (by simpa using slo))) (atI_nat (v := .int (lw[z'] : Nat)) (by unfold nV; rw [List.getElem?_map, List.getElem?_eq_getElem hz']; rfl)) ?_
          walk_at "st"
          have hc6 := g6.kp _ _ hc5 (by simpa using cs)
          refine w_append hc6 (by rw [sizeLine_eq]; simp) ?_
          refine hnx _ _ ⟨[tab'.length - 1], [lw[z']], rfl, .side (List.getElem_mem hz'), ?_, ?_, ?_, ?_, ?_, ((g04.trans g5).trans g6).put nc⟩
          · rw [upd_ne ca]; exact g6.kp _ _ ha5 (by simpa using as)
          · rw [upd_same]; rfl
          · rw [upd_ne sc.symm]; exact g6.kp _ _ hs5 (by simpa using ss)
          · obtain ⟨x, y, z, e⟩ := hst6; exact ⟨x, y, z, by rw [upd_ne cs.symm]; exact e⟩
          · rw [upd_ne clo.symm]; exact g6.kp _ _ hl5 (by simpa using slo)
      · walk_at "st"
        exact hnx _ _ ⟨[tab'.length - 1], [], rfl, .one, ha4, hc4, hs4, hst4, hl4, g04⟩
    · rintro σ G7 ⟨A, C, rfl, ch, ha, hc, hs, hst7, hl7, g7⟩
      walk_at "st"
      refine ⟨st, 2, rfl, rfl, by omega, by omega, hst7, fun z hz G8 g8 hst8 => ?_⟩
      walk_at "st"
      have ha8 := g8.kp _ _ ha (by simpa using as)
      have hc8 := g8.kp _ _ hc (by simpa using cs)
      have hs8 := g8.kp _ _ hs (by simpa using ss)
      have g78 := g7.trans g8
      have t8 := g78.kp _ _ u1 st'
      have ta8 := ta.fr g78 st' fun a o _ h => ⟨by simpa using h.2, h⟩
      have hl8 := g8.kp _ _ hl7 (by simpa using slo)
      refine w_tyL (SqL.of t8) ?_
      walk_at "st"
      obtain ⟨l, r, X, Y, eX, eY, l1, l2, l3, l4, hl, hr, hXY⟩ : ∃ l r X Y, [V.ref a, V.ref c][z]? = some (V.ref l) ∧ (atI [V.ref a, V.ref c] (1 - (z : Int)) = some (V.ref r)) ∧ l ≠ t ∧ l ≠ st ∧ r ≠ t ∧ r ≠ st ∧ G8 l = some (.lst (nV X)) ∧ G8 r = some (.lst (nV Y)) ∧ ((X, Y) = (A, C) ∨ (X, Y) = (C, A)) := by
        have zc : z = 0 ∨ z = 1 := by omega
        rcases zc with rfl | rfl
        · exact ⟨a, c, A, C, rfl, rfl, at_, as, ct, cs, ha8, hc8, .inl rfl⟩
        · exact ⟨c, a, C, A, rfl, rfl, ct, cs, at_, as, hc8, ha8, .inr rfl⟩
      refine w_ixL (SqL.of hs8) (atI_nat eX) ?_
      walk_at "st"
      refine w_ixL (SqL.of hs8) eY ?_
      walk_at "st"
      intro tp n_tp
      have f_tp : Fr [] G8 (upd G8 tp (.tup [.ref l, .ref r])) := Fr.new n_tp
      have h_tp : (upd G8 tp (.tup [.ref l, .ref r])) tp = some (.tup [.ref l, .ref r]) := upd_same
      generalize upd G8 tp (.tup [.ref l, .ref r]) = G9 at *
      walk_at "st"
      have t9 := f_tp.kp _ _ t8 (by simp)
      refine w_append t9 (by rw [u2, sizeLine_eq]; omega) ?_
      have fT : Fr [t] G9 (upd G9 t (.lst (us ++ [.ref tp]))) := Fr.at (Fr.refl _ _) (by simp) t9 rfl
      have hT : (upd G9 t (.lst (us ++ [.ref tp]))) t = some (.lst (us ++ [.ref tp])) := upd_same
      generalize upd G9 t (.lst (us ++ [.ref tp])) = G10 at *
      refine ⟨tab' ++ [(X, Y)], _, _, _, rfl, mo.step tb lmem ch hXY, ?_, (hst8.fr f_tp (by simp)).fr fT (by simpa using nst), fT.kp _ _ (f_tp.kp _ _ hl8 (by simp)) (by simpa using tlo), ((g.trans (g78.mono m1)).trans f_tp.of0).trans (fT.mono m2)⟩
      exact (ta8.fr0 f_tp).snoc t9 fT hT (fun a h => h.1) (fT.tup h_tp) (fT.kp _ _ (f_tp.kp _ _ hl (by simp)) (by simpa using l1)) (fT.kp _ _ (f_tp.kp _ _ hr (by simp)) (by simpa using l3)) ⟨l1, l2⟩ ⟨l3, l4⟩
end

/-! ### the document's texts -/

section
variable {P : Program} {w : World} {K : PySem.W.Frag} {mg : Str → Option Value} {base : Heap} {CB CE : Addr}
def cListed : P1 := fun tx_ H Q _ => ∃ p, ∃ xs : List Str, tx_ = .ref p ∧ H p = some (.lst (sV xs)) ∧ xs.length ≤ 1000 ∧ wS xs ≤ 1000000 ∧ ∀ H', Fr [] H H' → Q (.str (Txt.join "," (srtS xs))) H'
abbrev s__law_listed : Stmt := topS 22
theorem sc__law_listed : FnScope ["texts", "found", "one", "at", "other"] ["texts"] (defScope s__law_listed) := ⟨rfl, rfl, rfl, by decide +kernel, rfl, by decide +kernel, by decide +kernel⟩
theorem ok__law_listed (B : Blt mg) (S : Src K mg "_law_listed" s__law_listed ["texts"]) : DefOk P w K mg base CX0 1 "_law_listed" ["texts"] (sp1 cListed) := by
  refine S.ok sc__law_listed len1 fun f cdv A outer s H vs Q E hr h => ?_
  obtain ⟨tx_, rfl, p, xs, rfl, hp, xl, xw, q⟩ := h
  have hu := hu_of hr
  have hu64 := hr.units
  refine ⟨_, (pss_cons (ps_set (i := 1) sc__law_listed.nd rfl (Or.inl rfl) (pe_lst pa_nil))
    (pss_cons (ps_for PassesOwn.never rfl (iL K (pv 0)) (pg_name (i := 2) sc__law_listed.nd rfl (Or.inl rfl))
      (pss_cons (ps_set (i := 3) sc__law_listed.nd rfl (Or.inl rfl) pe_int)
      (pss_cons (ps_for PassesOwn.never rfl (iL K (pv 1)) (pg_name (i := 4) sc__law_listed.nd rfl (Or.inl rfl))
        (pss_one (ps_if (pt_cmpR op_lt_str (pv 4) (pv 2) (nomark _))
          (pss_one (ps_set (i := 3) sc__law_listed.nd rfl (Or.inl rfl) (pe_op op_add (pv 3) pe_int)))
          pss_nil)))
      (pss_one (ps_if (pt_cmpR (oNotIn K) (pv 2) (pv 1) (by rfl))
        (pss_one (ps_expr (kBM K PySem.F.plainAttrs_list PySem.F.slot_list_insert PySem.F.type_list_insert mt_insert (pv 1) (pa_cons (pv 3) (pa_cons (pv 2) pa_nil)))))
        pss_nil)))))
    (pss_one (ps_ret (kJoin K pe_str (pv 1)))))), ?_⟩
  walk_at "st"
  intro fd n_fd
  have f_fd : Fr [] H (upd H fd (.lst [])) := Fr.new n_fd
  have h_fd : (upd H fd (.lst [])) fd = some (.lst []) := upd_same
  generalize upd H fd (.lst []) = H1 at *
  walk_at "st"
  refine f_list (SqL.of (f_fd.kp _ _ hp (by simp))) (fun i σ G => ∃ x1 x2 x3, σ = [some (.ref p), some (.ref fd), x1, x2, x3] ∧ Fr [] H G ∧ ∃ F : List Str, G fd = some (.lst (sV F)) ∧ F.Pairwise slt ∧ (∀ k, k ∈ F ↔ k ∈ xs.take i) ∧ F.length ≤ i)
    ⟨_, _, _, rfl, f_fd, [], h_fd, List.Pairwise.nil, by simp, Nat.le_refl _⟩ (fun i σ G _ ⟨_, _, _, _, g, _⟩ => SqL.of (g.kp _ _ hp (by simp))) ?_ ?_
  rotate_left
  · rintro σ G ⟨x1, x2, x3, rfl, g, F, hF, pw, mem, _⟩
    rw [List.take_of_length_le (by rw [sV_len]; exact Nat.le_refl _)] at mem
    have e := srtS_of pw mem
    subst e
    walk_at "st"
    have o1 : ("," : Str).length = 1 := by decide +kernel
    have h1 := wS_srt xs
    have e : ∀ l : List Str, wS l = (l.map (·.length)).sum + l.length := by
      intro l
      induction l with
      | nil => rfl
      | cons x l ih => rw [wS_cons, ih, List.map_cons, List.sum_cons, List.length_cons]; omega
    rw [e] at h1
    refine w_join (SqL.of hF) (by rw [o1]; omega) ?_
    exact q G g
  · rintro i x σ G hx ⟨x1, x2, x3, rfl, g, F, hF, pw, mem, fl⟩
    obtain ⟨x, hxs, rfl⟩ : ∃ z, xs[i]? = some z ∧ x = .str z := by
      unfold sV at hx
      rw [List.getElem?_map] at hx
      cases e : xs[i]? with
      | none => rw [e] at hx; cases hx
      | some z => rw [e] at hx; exact ⟨z, rfl, (Option.some.inj hx).symm⟩
    have hil := (List.getElem?_eq_some_iff.mp hxs).1
    walk_at "st"
    refine f_list (SqL.of hF) (fun j σ G' => G' = G ∧ ∃ x3, σ = [some (.ref p), some (.ref fd), some (.str x), some (.int (cnt x (F.take j) : Nat)), x3]) ⟨rfl, _, rfl⟩ (fun j σ G' _ ⟨e, _⟩ => by rw [e]; exact SqL.of hF) ?_ ?_
    · rintro j y σ G' hy ⟨rfl, x3, rfl⟩
      obtain ⟨y, hys, rfl⟩ : ∃ z, F[j]? = some z ∧ y = .str z := by
        unfold sV at hy
        rw [List.getElem?_map] at hy
        cases e : F[j]? with
        | none => rw [e] at hy; cases hy
        | some z => rw [e] at hy; exact ⟨z, rfl, (Option.some.inj hy).symm⟩
      walk_at "st"
      refine ⟨y, x, rfl, rfl, ?_⟩
      have e1 : F.take (j + 1) = F.take j ++ [y] := by rw [List.take_add_one, hys]; rfl
      walk_at "st"
      refine w_dec (fun c => ?_) fun c => ?_
      · walk_at "st"
        rw [e1, cnt_snoc, if_pos (show slt y x from c)]
        exact ⟨rfl, _, rfl⟩
      · walk_at "st"
        rw [e1, cnt_snoc, if_neg (show ¬ slt y x from c)]
        exact ⟨rfl, _, rfl⟩
    rintro σ G' ⟨rfl, x3, rfl⟩
    rw [List.take_of_length_le (l := F) (i := (sV F).length) (by rw [sV_len]; exact Nat.le_refl _)]
    walk_at "st"
    have e1 : xs.take (i + 1) = xs.take i ++ [x] := by rw [List.take_add_one, hxs]; rfl
    refine ⟨fd, _, rfl, .inl (SqL.of hF), rfl, flat_s F, ?_⟩
    rw [if_pos rfl, inV_s]
    walk_at "st"
    by_cases c : x ∈ F
    · rw [decide_eq_true c]
      refine w_no rfl ?_
      walk_at "st"
      refine ⟨_, _, _, rfl, g, F, hF, pw, fun k => ?_, by omega⟩
      rw [e1, List.mem_append, ← mem k, List.mem_singleton]
      exact ⟨.inl, fun h => by rcases h with h | h; exact h; rw [h]; exact c⟩
    · rw [decide_eq_false c]
      refine w_yes rfl ?_
      walk_at "st"
      refine w_tyL (SqL.of hF) ?_
      walk_at "st"
      have cl := cnt_le x F
      refine ⟨fd, _, _, _, rfl, rfl, hF, by rw [sV_len, sizeLine_eq]; omega, by omega, by omega, ?_⟩
      have e2 : List.take (((cnt x F : Nat) : Int)).toNat (sV F) ++ [V.str x] ++ List.drop (((cnt x F : Nat) : Int)).toNat (sV F) = sV (insS x F) := by
        rw [Int.toNat_natCast, ← ins_at pw c]
        unfold sV
        rw [List.map_append, List.map_append, List.map_take, List.map_drop]
        rfl
      rw [e2]
      have il : (insS x F).length ≤ i + 1 := by
        rw [← ins_at pw c, List.length_append, List.length_append, List.length_take, List.length_drop, List.length_singleton]; omega
      refine ⟨_, _, _, rfl, g.put n_fd, insS x F, upd_same, insS_srt pw, fun k => ?_, il⟩
      rw [mem_insS, e1, List.mem_append, ← mem k, List.mem_singleton]
      exact Or.comm
end

/-! ### the document's texts of a table -/

section
variable {P : Program} {w : World} {K : PySem.W.Frag} {mg : Str → Option Value} {base : Heap} {CB CE : Addr}
def cTexts : P1 := fun tb_ H Q _ => ∃ t tab N, tb_ = .ref t ∧ TabAt H t tab N ∧ (∀ (i : Nat) (r : Row), tab[i]? = some r → ∀ m ∈ r.1 ++ r.2, m < i) ∧ (∀ r ∈ tab, r.1.length ≤ 60 ∧ r.2.length ≤ 60) ∧ tab.length ≤ 1000 ∧ (∀ j, j < tab.length → (tt tab j).length ≤ 10000) ∧
  ∀ p H', Fr [] H H' → H p = none → H' p = some (.lst (sV (evalB txF "0" tab))) → Q (.ref p) H'
theorem sV_get {xs : List Str} {j : Nat} {x : Str} (h : xs[j]? = some x) : (sV xs)[j]? = some (.str x) := by unfold sV; rw [List.getElem?_map, h]; rfl
theorem sV_app (a : List Str) (x : Str) : sV a ++ [.str x] = sV (a ++ [x]) := by unfold sV; rw [List.map_append]; rfl
theorem map_take_succ {β : Type} {l : List Nat} {j m : Nat} (f : Nat → β) (h : l[j]? = some m) : (l.take (j + 1)).map f = (l.take j).map f ++ [f m] := by rw [List.take_add_one, h]; simp
abbrev s__law_texts : Stmt := topS 23
theorem sc__law_texts : FnScope ["table", "texts", "lefts", "rights", "left", "at"] ["table"] (defScope s__law_texts) := ⟨rfl, rfl, rfl, by decide +kernel, rfl, by decide +kernel, by decide +kernel⟩
theorem ok__law_texts (B : Blt mg) (d__law_listed : DefOk P w K mg base CX0 1 "_law_listed" ["texts"] (sp1 cListed)) (S : Src K mg "_law_texts" s__law_texts ["table"]) : DefOk P w K mg base CX0 2 "_law_texts" ["table"] (sp1 cTexts) := by
  refine S.ok sc__law_texts len1 fun f cdv A outer s H vs Q E hr h => ?_
  obtain ⟨tb_, rfl, t, tab, N, rfl, ta, low, side, tl, tlen, q⟩ := h
  have hu := hu_of hr
  have hu64 := hr.units
  refine ⟨_, (pss_cons (ps_set (i := 1) sc__law_texts.nd rfl (Or.inr rfl) (pe_lst pa_nil))
    (pss_cons (ps_for PassesOwn.never rfl (iL K (pv 0)) (gT K (pgs_cons (pg_name (i := 2) sc__law_texts.nd rfl (Or.inl rfl)) (pgs_cons (pg_name (i := 3) sc__law_texts.nd rfl (Or.inl rfl)) pgs_nil)))
      (pss_one (ps_if (PW.pt (pw_and (pt_cmpR (oEqD K hu64) (pv 2) (pe_lst pa_nil) (nomark _)) (pw_and1 (pt_cmpR (oEqD K hu64) (pv 3) (pe_lst pa_nil) (nomark _)))))
        (pss_one (ps_expr (kBM K PySem.F.plainAttrs_list PySem.F.slot_list_append PySem.F.type_list_append mt_append (pv 1) (pa_cons pe_str pa_nil))))
        (pss_cons (ps_set (i := 4) sc__law_texts.nd rfl (Or.inl rfl) (pe_fn d__law_listed (hr.mono (by omega)) pass0 (pa_cons (pe_lc (own := [("at", 5)]) (g := gName 5) (tt := tYes) rfl sc__law_texts.nd (iL K (pv 2)) (blkOk_by (N := ["table", "texts", "lefts", "rights", "left", "at"]) (sc := defScope s__law_texts) (by decide +kernel)) (fun _ _ _ _ _ => by exact (pg_name (i := 5) sc__law_texts.nd rfl (Or.inl rfl))) (fun _ _ _ _ _ => by exact pts_nil) (fun _ _ _ _ _ => by exact (pe_ix (ixL K) (pv 1) (pv 5) (fun _ _ => rfl)))) pa_nil)))
        (pss_one (ps_expr (kBM K PySem.F.plainAttrs_list PySem.F.slot_list_append PySem.F.type_list_append mt_append (pv 1) (pa_cons (pe_op op_add_str (pe_op op_add_str (pe_op op_add_str (pe_op op_add_str pe_str (pv 4)) pe_str) (pe_fn d__law_listed (hr.mono (by omega)) pass0 (pa_cons (pe_lc (own := [("at", 5)]) (g := gName 5) (tt := tYes) rfl sc__law_texts.nd (iL K (pv 3)) (blkOk_by (N := ["table", "texts", "lefts", "rights", "left", "at"]) (sc := defScope s__law_texts) (by decide +kernel)) (fun _ _ _ _ _ => by exact (pg_name (i := 5) sc__law_texts.nd rfl (Or.inl rfl))) (fun _ _ _ _ _ => by exact pts_nil) (fun _ _ _ _ _ => by exact (pe_ix (ixL K) (pv 1) (pv 5) (fun _ _ => rfl)))) pa_nil))) pe_str) pa_nil))))))))
    (pss_one (ps_ret (pv 1))))), ?_⟩
  walk_at "st"
  intro xl n_xl
  have f_xl : Fr [] H (upd H xl (.lst [])) := Fr.new n_xl
  have h_xl : (upd H xl (.lst [])) xl = some (.lst []) := upd_same
  generalize upd H xl (.lst []) = H1 at *
  walk_at "st"
  obtain ⟨ts, t1, t2, t3⟩ := ta.ex
  refine f_list (SqL.of (f_xl.kp _ _ t1 (by simp))) (fun i σ G => ∃ x y z, σ = [some (.ref t), some (.ref xl), x, y, z, none] ∧ Fr [] H G ∧ G xl = some (.lst (sV ((evalB txF "0" tab).take i))))
    ⟨_, _, _, rfl, f_xl, h_xl⟩ (fun i σ G _ ⟨_, _, _, _, g, _⟩ => SqL.of (g.kp _ _ t1 (by simp))) ?_ ?_
  rotate_left
  · rintro σ G ⟨x, y, z, rfl, g, hxl⟩
    rw [List.take_of_length_le (by rw [t2, evalB_len]; exact Nat.le_refl _)] at hxl
    walk_at "st"
    exact q xl G g n_xl hxl
  · rintro i x σ G hx ⟨x1, y1, z1, rfl, g, hxl⟩
    have hi : i < tab.length := by rw [← t2]; exact (List.getElem?_eq_some_iff.mp hx).1
    have hr0 := List.getElem?_eq_getElem hi
    generalize tab[i] = r at hr0
    obtain ⟨tp, l, r', a1, a2, a3, a4, a5, a6⟩ := t3 i r hr0
    rw [a1] at hx
    cases hx
    have hlow := low i r hr0
    have hsd := side r (List.mem_of_getElem? hr0)
    have hval : (evalB txF "0" tab)[i]? = some (tt tab i) := evalB_get txF "0" hi
    have heq := tt_at low hr0
    have l1 := g.kp _ _ a3 (by simp)
    have l2 := g.kp _ _ a4 (by simp)
    have tln : (sV ((evalB txF "0" tab).take i)).length < sizeLine := by rw [sV_len, List.length_take, evalB_len, sizeLine_eq]; omega
    refine w_gTup2 (SqT.of (g.tup a2)) ?_
    walk_at "st"
    intro e1 n_e1
    have f_e1 : Fr [] G (upd G e1 (.lst [])) := Fr.new n_e1
    have h_e1 : (upd G e1 (.lst [])) e1 = some (.lst []) := upd_same
    generalize upd G e1 (.lst []) = G1 at *
    refine w_eqNil (SqL.of (f_e1.kp _ _ l1 (by simp))) (SqL.of h_e1) ?_
    walk_at "st"
    have o2 : ("{" : Str).length = 1 := by decide +kernel
    have o3 : ("|" : Str).length = 1 := by decide +kernel
    have o4 : ("}" : Str).length = 1 := by decide +kernel
    by_cases c1 : r.1 = []
    · rw [decide_eq_true c1]
      refine w_yes rfl ?_
      walk_at "st"
      intro e2 n_e2
      have f_e2 : Fr [] G1 (upd G1 e2 (.lst [])) := Fr.new n_e2
      have h_e2 : (upd G1 e2 (.lst [])) e2 = some (.lst []) := upd_same
      generalize upd G1 e2 (.lst []) = G2 at *
      have gE := f_e1.trans f_e2
      refine w_eqNil (SqL.of (gE.kp _ _ l2 (by simp))) (SqL.of h_e2) ?_
      walk_at "st"
      by_cases c2 : r.2 = []
      · rw [decide_eq_true c2]
        refine w_yes rfl ?_
        walk_at "st"
        have xE := gE.kp _ _ hxl (by simp)
        refine w_tyL (SqL.of xE) ?_
        walk_at "st"
        refine w_append xE tln ?_
        refine ⟨_, _, _, rfl, (g.trans gE).put n_xl, ?_⟩
        have e0 : ("0" : Str) = tt tab i := by rw [heq, c1, c2]; exact txF_nil.symm
        rw [upd_same, List.take_add_one, hval, e0]
        exact congrArg (fun z => some (HO.lst z)) (sV_app _ _)
      have nn : ¬ (r.1 = [] ∧ r.2 = []) := fun z => c2 z.2
      rw [decide_eq_false c2]
      refine w_no rfl ?_
      have lE1 := gE.kp _ _ l1 (by simp)
      have lE2 := gE.kp _ _ l2 (by simp)
      have xE := gE.kp _ _ hxl (by simp)
      walk_at "st"
      refine c_list (SqL.of lE1) (fun D j G' => G2 D = none ∧ Fr [] G2 G' ∧ G' D = some (.lst (sV ((r.1.take j).map (tt tab))))) (fun D G' n g e => ⟨n, g, e⟩) (fun D j G' _ p => SqL.of (p.2.1.kp _ _ lE1 (by simp))) ?_ ?_
      · rintro D j x G' hx ⟨nD, g', e⟩
        obtain ⟨m, hm, rfl⟩ := nV_get hx
        have hmi := hlow m (List.mem_append_left _ (List.mem_of_getElem? hm))
        walk_at "st"
        refine w_ixL (SqL.of (g'.kp _ _ xE (by simp))) (atI_nat (v := .str (tt tab m)) (sV_get (by rw [List.getElem?_take, if_pos hmi]; exact evalB_get txF "0" (by omega)))) ?_
        refine ⟨_, e, ?_, nD, g'.put nD, ?_⟩
        · rw [sV_len, List.length_map, List.length_take, sizeLine_eq]; omega
        · rw [upd_same, map_take_succ _ hm, ← sV_app]
      rintro D5 A5 nD5 ⟨_, gD5, hD5⟩
      rw [List.take_of_length_le (by rw [nV_len]; exact Nat.le_refl _)] at hD5
      have w5 : wS (r.1.map (tt tab)) ≤ 600060 := by
        have h1 := wS_le (c := 10000) (l := r.1.map (tt tab)) fun x hx => by
          obtain ⟨m, hm, rfl⟩ := List.mem_map.mp hx
          have := hlow m (List.mem_append_left _ hm)
          exact tlen m (by omega)
        rw [List.length_map] at h1
        have h2 := Nat.mul_le_mul_right (10000 + 1) hsd.1
        omega
      walk_at "st"
      refine ⟨D5, r.1.map (tt tab), rfl, hD5, by rw [List.length_map]; omega, by omega, fun B5 gB5 => ?_⟩
      walk_at "st"
      have g15 := gE.trans (gD5.trans gB5)
      have xE2 := g15.kp _ _ hxl (by simp)
      have lE3 := g15.kp _ _ l2 (by simp)
      refine w_tyL (SqL.of xE2) ?_
      walk_at "st"
      have j1 := joinS_len (srtS (r.1.map (tt tab)))
      have j2 := joinS_len (srtS (r.2.map (tt tab)))
      have j3 := wS_srt (r.1.map (tt tab))
      have j4 := wS_srt (r.2.map (tt tab))
      refine ⟨_, _, rfl, rfl, by rw [o2, sizeLine_eq]; omega, ?_⟩
      walk_at "st"
      refine ⟨_, _, rfl, rfl, by rw [len_app, o2, o3, sizeLine_eq]; omega, ?_⟩
      walk_at "st"
      refine c_list (SqL.of lE3) (fun D j G' => B5 D = none ∧ Fr [] B5 G' ∧ G' D = some (.lst (sV ((r.2.take j).map (tt tab))))) (fun D G' n g e => ⟨n, g, e⟩) (fun D j G' _ p => SqL.of (p.2.1.kp _ _ lE3 (by simp))) ?_ ?_
      · rintro D j x G' hx ⟨nD, g', e⟩
        obtain ⟨m, hm, rfl⟩ := nV_get hx
        have hmi := hlow m (List.mem_append_right _ (List.mem_of_getElem? hm))
        walk_at "st"
        refine w_ixL (SqL.of (g'.kp _ _ xE2 (by simp))) (atI_nat (v := .str (tt tab m)) (sV_get (by rw [List.getElem?_take, if_pos hmi]; exact evalB_get txF "0" (by omega)))) ?_
        refine ⟨_, e, ?_, nD, g'.put nD, ?_⟩
        · rw [sV_len, List.length_map, List.length_take, sizeLine_eq]; omega
        · rw [upd_same, map_take_succ _ hm, ← sV_app]
      rintro D6 A6 nD6 ⟨_, gD6, hD6⟩
      rw [List.take_of_length_le (by rw [nV_len]; exact Nat.le_refl _)] at hD6
      have w6 : wS (r.2.map (tt tab)) ≤ 600060 := by
        have h1 := wS_le (c := 10000) (l := r.2.map (tt tab)) fun x hx => by
          obtain ⟨m, hm, rfl⟩ := List.mem_map.mp hx
          have := hlow m (List.mem_append_right _ hm)
          exact tlen m (by omega)
        rw [List.length_map] at h1
        have h2 := Nat.mul_le_mul_right (10000 + 1) hsd.2
        omega
      walk_at "st"
      refine ⟨D6, r.2.map (tt tab), rfl, hD6, by rw [List.length_map]; omega, by omega, fun B6 gB6 => ?_⟩
      walk_at "st"
      refine ⟨_, _, rfl, rfl, by rw [len_app, len_app, o2, o3, sizeLine_eq]; omega, ?_⟩
      walk_at "st"
      refine ⟨_, _, rfl, rfl, by rw [len_app, len_app, len_app, o2, o3, o4, sizeLine_eq]; omega, ?_⟩
      walk_at "st"
      have g16 := g15.trans (gD6.trans gB6)
      refine w_append (g16.kp _ _ hxl (by simp)) tln ?_
      refine ⟨_, _, _, rfl, (g.trans g16).put n_xl, ?_⟩
      have e0 : ("{" : Str) ++ Txt.join "," (srtS (r.1.map (tt tab))) ++ "|" ++ Txt.join "," (srtS (r.2.map (tt tab))) ++ "}" = tt tab i := by
        rw [heq]
        unfold txF
        rw [if_neg]
        rintro ⟨a, b⟩
        exact nn ⟨List.map_eq_nil_iff.mp a, List.map_eq_nil_iff.mp b⟩
      rw [upd_same, List.take_add_one, hval, e0]
      exact congrArg (fun z => some (HO.lst z)) (sV_app _ _)
    · have nn : ¬ (r.1 = [] ∧ r.2 = []) := fun z => c1 z.1
      rw [decide_eq_false c1]
      refine w_no rfl ?_
      have lE1 := f_e1.kp _ _ l1 (by simp)
      have lE2 := f_e1.kp _ _ l2 (by simp)
      have xE := f_e1.kp _ _ hxl (by simp)
      walk_at "st"
      refine c_list (SqL.of lE1) (fun D j G' => G1 D = none ∧ Fr [] G1 G' ∧ G' D = some (.lst (sV ((r.1.take j).map (tt tab))))) (fun D G' n g e => ⟨n, g, e⟩) (fun D j G' _ p => SqL.of (p.2.1.kp _ _ lE1 (by simp))) ?_ ?_
      · rintro D j x G' hx ⟨nD, g', e⟩
        obtain ⟨m, hm, rfl⟩ := nV_get hx
        have hmi := hlow m (List.mem_append_left _ (List.mem_of_getElem? hm))
        walk_at "st"
        refine w_ixL (SqL.of (g'.kp _ _ xE (by simp))) (atI_nat (v := .str (tt tab m)) (sV_get (by rw [List.getElem?_take, if_pos hmi]; exact evalB_get txF "0" (by omega)))) ?_
        refine ⟨_, e, ?_, nD, g'.put nD, ?_⟩
        · rw [sV_len, List.length_map, List.length_take, sizeLine_eq]; omega
        · rw [upd_same, map_take_succ _ hm, ← sV_app]
      rintro D5 A5 nD5 ⟨_, gD5, hD5⟩
      rw [List.take_of_length_le (by rw [nV_len]; exact Nat.le_refl _)] at hD5
      have w5 : wS (r.1.map (tt tab)) ≤ 600060 := by
        have h1 := wS_le (c := 10000) (l := r.1.map (tt tab)) fun x hx => by
          obtain ⟨m, hm, rfl⟩ := List.mem_map.mp hx
          have := hlow m (List.mem_append_left _ hm)
          exact tlen m (by omega)
        rw [List.length_map] at h1
        have h2 := Nat.mul_le_mul_right (10000 + 1) hsd.1
        omega
      walk_at "st"
      refine ⟨D5, r.1.map (tt tab), rfl, hD5, by rw [List.length_map]; omega, by omega, fun B5 gB5 => ?_⟩
      walk_at "st"
      have g15 := f_e1.trans (gD5.trans gB5)
      have xE2 := g15.kp _ _ hxl (by simp)
      have lE3 := g15.kp _ _ l2 (by simp)
      refine w_tyL (SqL.of xE2) ?_
      walk_at "st"
      have j1 := joinS_len (srtS (r.1.map (tt tab)))
      have j2 := joinS_len (srtS (r.2.map (tt tab)))
      have j3 := wS_srt (r.1.map (tt tab))
      have j4 := wS_srt (r.2.map (tt tab))
      refine ⟨_, _, rfl, rfl, by rw [o2, sizeLine_eq]; omega, ?_⟩
      walk_at "st"
      refine ⟨_, _, rfl, rfl, by rw [len_app, o2, o3, sizeLine_eq]; omega, ?_⟩
      walk_at "st"
      refine c_list (SqL.of lE3) (fun D j G' => B5 D = none ∧ Fr [] B5 G' ∧ G' D = some (.lst (sV ((r.2.take j).map (tt tab))))) (fun D G' n g e => ⟨n, g, e⟩) (fun D j G' _ p => SqL.of (p.2.1.kp _ _ lE3 (by simp))) ?_ ?_
      · rintro D j x G' hx ⟨nD, g', e⟩
        obtain ⟨m, hm, rfl⟩ := nV_get hx
        have hmi := hlow m (List.mem_append_right _ (List.mem_of_getElem? hm))
        walk_at "st"
        refine w_ixL (SqL.of (g'.kp _ _ xE2 (by simp))) (atI_nat (v := .str (tt tab m)) (sV_get (by rw [List.getElem?_take, if_pos hmi]; exact evalB_get txF "0" (by omega)))) ?_
        refine ⟨_, e, ?_, nD, g'.put nD, ?_⟩
        · rw [sV_len, List.length_map, List.length_take, sizeLine_eq]; omega
        · rw [upd_same, map_take_succ _ hm, ← sV_app]
      rintro D6 A6 nD6 ⟨_, gD6, hD6⟩
      rw [List.take_of_length_le (by rw [nV_len]; exact Nat.le_refl _)] at hD6
      have w6 : wS (r.2.map (tt tab)) ≤ 600060 := by
        have h1 := wS_le (c := 10000) (l := r.2.map (tt tab)) fun x hx => by
          obtain ⟨m, hm, rfl⟩ := List.mem_map.mp hx
          have := hlow m (List.mem_append_right _ hm)
          exact tlen m (by omega)
        rw [List.length_map] at h1
        have h2 := Nat.mul_le_mul_right (10000 + 1) hsd.2
        omega
      walk_at "st"
      refine ⟨D6, r.2.map (tt tab), rfl, hD6, by rw [List.length_map]; omega, by omega, fun B6 gB6 => ?_⟩
      walk_at "st"
      refine ⟨_, _, rfl, rfl, by rw [len_app, len_app, o2, o3, sizeLine_eq]; omega, ?_⟩
      walk_at "st"
      refine ⟨_, _, rfl, rfl, by rw [len_app, len_app, len_app, o2, o3, o4, sizeLine_eq]; omega, ?_⟩
      walk_at "st"
      have g16 := g15.trans (gD6.trans gB6)
      refine w_append (g16.kp _ _ hxl (by simp)) tln ?_
      refine ⟨_, _, _, rfl, (g.trans g16).put n_xl, ?_⟩
      have e0 : ("{" : Str) ++ Txt.join "," (srtS (r.1.map (tt tab))) ++ "|" ++ Txt.join "," (srtS (r.2.map (tt tab))) ++ "}" = tt tab i := by
        rw [heq]
        unfold txF
        rw [if_neg]
        rintro ⟨a, b⟩
        exact nn ⟨List.map_eq_nil_iff.mp a, List.map_eq_nil_iff.mp b⟩
      rw [upd_same, List.take_add_one, hval, e0]
      exact congrArg (fun z => some (HO.lst z)) (sV_app _ _)
end

/-! ### reading a text -/

section
variable {P : Program} {w : World} {K : PySem.W.Frag} {mg : Str → Option Value} {base : Heap} {CB CE : Addr}
def cGRead (n : Nat) : P3' := fun text at_ room H Q _ => ∃ t : Str, ∃ a r : Nat, text = .str t ∧ at_ = .int (a : Int) ∧ room = .int (r : Int) ∧ r ≤ n ∧ n ≤ 28 ∧ t.length ≤ 1000000 ∧ (gread (TL.tl t) r a = none → ∀ H', Fr [] H H' → Q .non H') ∧
  ∀ m p, gread (TL.tl t) r a = some (m, p) → ∀ H' q v, Fr [] H H' → H' q = some (.tup [v, .int (p : Int)]) → TrAt H' v m → Q (.ref q) H'
def cSRead (n : Nat) : P4' := fun text at_ end_ room H Q _ => ∃ t ed : Str, ∃ a r e : Nat, text = .str t ∧ at_ = .int (a : Int) ∧ end_ = .str ed ∧ TL.tl ed = [e] ∧ room = .int (r : Int) ∧ r < n ∧ n ≤ 28 ∧ t.length ≤ 1000000 ∧ (sread (gread (TL.tl t) r) (TL.tl t) e a = none → ∀ H', Fr [] H H' → Q .non H') ∧
  ∀ ls p, sread (gread (TL.tl t) r) (TL.tl t) e a = some (ls, p) → ∀ H' q l xs, Fr [] H H' → H' q = some (.tup [.ref l, .int (p : Int)]) → H' l = some (.lst xs) → TrsAt H' xs ls → Q (.ref q) H'
theorem cut1 {t : Str} {i : Nat} {ed : Str} {e : Nat} (he : TL.tl ed = [e]) : decide (cutS t (some (i : Int)) (some ((i : Int) + 1)) = ed) = decide (sg (TL.tl t) i (i + 1) = [e]) := by
  have h := tl_cut (t := t) (i := i) (j := i + 1) (by omega)
  rw [show (((i + 1 : Nat)) : Int) = (i : Int) + 1 by omega] at h
  rw [decide_eq_decide, ← he, ← h]
  exact ⟨fun z => by rw [z], fun z => TL.ext_tl z⟩
abbrev s_side_read : Stmt := topS 9
theorem sc_side_read : FnScope ["text", "at", "end", "room", "moves", "last", "found", "sign"] ["text", "at", "end", "room"] (defScope s_side_read) := ⟨rfl, rfl, rfl, by decide +kernel, rfl, by decide +kernel, by decide +kernel⟩
theorem rc_side_read0 (B : Blt mg) (S : Src K mg "side_read" s_side_read ["text", "at", "end", "room"]) : DefOk P w K mg base CX0 1 "side_read" ["text", "at", "end", "room"] (sp4 (cSRead 0)) := by
  refine S.ok sc_side_read len4 fun f cdv A outer s H vs Q E hr h => ?_
  obtain ⟨_, _, _, _, _, _, _, _, _, _, _, _, _, _, _, h, _⟩ := h
  exact absurd h (Nat.not_lt_zero _)
theorem rc_side_read {n : Nat} (B : Blt mg) (d_game_read : DefOk P w K mg base CX0 (2 * n + 2) "game_read" ["text", "at", "room"] (sp3 (cGRead n))) (S : Src K mg "side_read" s_side_read ["text", "at", "end", "room"]) : DefOk P w K mg base CX0 (2 * n + 3) "side_read" ["text", "at", "end", "room"] (sp4 (cSRead (n + 1))) := by
  refine S.ok sc_side_read len4 fun f cdv A outer s H vs Q E hr h => ?_
  obtain ⟨text, at_, end_, room, rfl, t, ed, a, r, e, rfl, rfl, rfl, he, rfl, hn, hn28, hz, q0, q1⟩ := h
  have hu := hu_of hr
  have hu64 := hr.units
  refine ⟨_, (pss_cons (ps_set (i := 4) sc_side_read.nd rfl (Or.inl rfl) (pe_lst pa_nil))
    (pss_cons (ps_set (i := 5) sc_side_read.nd rfl (Or.inl rfl) pe_str)
    (pss_cons (ps_if (pt_cmpR op_eq (pe_slice sl_str (pv 0) (po_some (pv 1)) (po_some (pe_op op_add (pv 1) pe_int))) (pv 2) (nomark _))
      (pss_one (ps_ret (pe_tup (pa_cons (pv 4) (pa_cons (pe_op op_add (pv 1) pe_int) pa_nil)))))
      pss_nil)
    (pss_one (ps_while PassesOwn.never (pt_val pe_bl)
      (pss_cons (ps_set (i := 6) sc_side_read.nd rfl (Or.inl rfl) (pe_fn d_game_read (hr.mono (by omega)) pass0 (pa_cons (pv 0) (pa_cons (pv 1) (pa_cons (pv 3) pa_nil)))))
      (pss_cons (ps_if (PW.pt (pw_or (pt_cmpR op_isN (pv 6) pe_non (nomark _)) (pw_or1 (PW.pt (pw_and (pt_cmpR (oNeD K hu64) (pv 4) (pe_lst pa_nil) (nomark _)) (pw_and1 (pt_not (pt_cmpR op_lt_str (pv 5) (pe_slice sl_str (pv 0) (po_some (pv 1)) (po_some (pe_ix (ixT K) (pv 6) pe_int (fun _ _ => rfl)))) (nomark _)))))))))
        (pss_one (ps_ret pe_non))
        pss_nil)
      (pss_cons (ps_expr (kBM K PySem.F.plainAttrs_list PySem.F.slot_list_append PySem.F.type_list_append mt_append (pv 4) (pa_cons (pe_ix (ixT K) (pv 6) pe_int (fun _ _ => rfl)) pa_nil)))
      (pss_cons (ps_set (i := 5) sc_side_read.nd rfl (Or.inl rfl) (pe_slice sl_str (pv 0) (po_some (pv 1)) (po_some (pe_ix (ixT K) (pv 6) pe_int (fun _ _ => rfl)))))
      (pss_cons (ps_set (i := 1) sc_side_read.nd rfl (Or.inl rfl) (pe_op op_add (pe_ix (ixT K) (pv 6) pe_int (fun _ _ => rfl)) pe_int))
      (pss_cons (ps_set (i := 7) sc_side_read.nd rfl (Or.inl rfl) (pe_slice sl_str (pv 0) (po_some (pe_ix (ixT K) (pv 6) pe_int (fun _ _ => rfl))) (po_some (pv 1))))
      (pss_cons (ps_if (pt_cmpR op_eq (pv 7) (pv 2) (nomark _))
        (pss_one (ps_ret (pe_tup (pa_cons (pv 4) (pa_cons (pv 1) pa_nil)))))
        pss_nil)
      (pss_one (ps_if (pt_cmpR op_ne (pv 7) pe_str (nomark _))
        (pss_one (ps_ret pe_non))
        pss_nil)))))))))))))), ?_⟩
  walk_at "st"
  intro ml n_ml
  have f_ml : Fr [] H (upd H ml (.lst [])) := Fr.new n_ml
  have h_ml : (upd H ml (.lst [])) ml = some (.lst []) := upd_same
  generalize upd H ml (.lst []) = H1 at *
  walk_at "st"
  have tz : t.length ≤ sizeLine := by rw [sizeLine_eq]; omega
  have lT : (TL.tl t).length = t.length := (TL.len_tl t).symm
  have fw := gread_fwd (TL.tl t) r
  have gd := gread_dep (TL.tl t) r
  refine w_slS tz ?_
  walk_at "st"
  rw [cut1 he]
  refine w_dec (fun c => ?_) fun c => ?_
  · walk_at "st"
    intro q n_q
    have f_q : Fr [] H1 (upd H1 q (.tup [.ref ml, .int ((a : Int) + 1)])) := Fr.new n_q
    have h_q : (upd H1 q (.tup [.ref ml, .int ((a : Int) + 1)])) q = some (.tup [.ref ml, .int ((a : Int) + 1)]) := upd_same
    generalize upd H1 q (.tup [.ref ml, .int ((a : Int) + 1)]) = H2 at *
    refine q1 [] (a + 1) (by unfold sread; rw [if_pos c]) H2 q ml [] (f_ml.trans f_q) h_q (f_q.kp _ _ h_ml (by simp)) .nil
  · have es : sread (gread (TL.tl t) r) (TL.tl t) e a = sloop (gread (TL.tl t) r) (TL.tl t) e ((TL.tl t).length + 1) [] [] a := by unfold sread; rw [if_neg c]
    walk_at "st"
    refine f_while (fun m σ H' => ∃ f ms lastS a' xs x6 x7, σ = [some (.str t), some (.int ((a' : Nat) : Int)), some (.str ed), some (.int (r : Int)), some (.ref ml), some (.str lastS), x6, x7] ∧ Fr [] H H' ∧ H' ml = some (.lst xs) ∧ TrsAt H' xs ms ∧ sloop (gread (TL.tl t) r) (TL.tl t) e f ms (TL.tl lastS) a' = sread (gread (TL.tl t) r) (TL.tl t) e a ∧ (TL.tl t).length + 1 ≤ a' + f ∧ ms.length ≤ a' ∧ (∀ t ∈ ms, t.dep ≤ r) ∧ m = (TL.tl t).length + 2 - a') ((TL.tl t).length + 2 - a)
      ⟨(TL.tl t).length + 1, [], "", a, [], _, _, rfl, f_ml, h_ml, .nil, es.symm, by omega, Nat.zero_le _, by simp, rfl⟩ ?_
    rintro m0 σ H2 ⟨f, ms, lastS, a', xs, x6, x7, rfl, g, hml, hts, hsl, hf, hms, hdp, em⟩
    walk_at "st"
    refine w_turn ?_
    walk_at "st"
    refine ⟨t, a', r, rfl, rfl, rfl, by omega, by omega, hz, fun hno H3 g3 => ?_, fun m p hso H3 q v g3 hq hv => ?_⟩
    · walk_at "st"
      refine ⟨rfl, ?_⟩
      walk_at "st"
      refine w_yes rfl ?_
      walk_at "st"
      refine q0 ?_ H3 (g.trans g3)
      rw [← hsl]
      cases f with
      | zero => rfl
      | succ f => unfold sloop; rw [hno]
    · have hap := fw a' m p hso
      have hmd := gd a' m p hso
      refine w_name ?_
      have ecut : TL.tl (cutS t (some (a' : Int)) (some (p : Int))) = sg (TL.tl t) a' p := tl_cut (by omega)
      have hsf : ∃ f', f = f' + 1 := by
        cases f with
        | zero => exact absurd hap (by omega)
        | succ f' => exact ⟨f', rfl⟩
      obtain ⟨f', rfl⟩ := hsf
      have unf : sloop (gread (TL.tl t) r) (TL.tl t) e (f' + 1) ms (TL.tl lastS) a' = (if ms ≠ [] ∧ ¬ (TL.tl lastS < sg (TL.tl t) a' p) then none
          else if sg (TL.tl t) p (p + 1) = [e] then some (ms ++ [m], p + 1)
          else if sg (TL.tl t) p (p + 1) = [44] then sloop (gread (TL.tl t) r) (TL.tl t) e f' (ms ++ [m]) (sg (TL.tl t) a' p) (p + 1)
          else none) := by
        conv => lhs; unfold sloop
        rw [hso]
      refine w_cut (fun σ' H' => σ' = [some (.str t), some (.int ((a' : Nat) : Int)), some (.str ed), some (.int (r : Int)), some (.ref ml), some (.str lastS), some (.ref q), x7] ∧ Fr [] H3 H' ∧ ¬ (ms ≠ [] ∧ ¬ (TL.tl lastS < sg (TL.tl t) a' p))) ?_ fun nx' hnx => ?_
      rotate_left
      · walk_at "st"
        refine ⟨rfl, ?_⟩
        walk_at "st"
        refine w_no rfl ?_
        walk_at "st"
        intro e1 n_e1
        have f_e1 : Fr [] H3 (upd H3 e1 (.lst [])) := Fr.new n_e1
        have h_e1 : (upd H3 e1 (.lst [])) e1 = some (.lst []) := upd_same
        generalize upd H3 e1 (.lst []) = H4 at *
        have g4 := g3.trans f_e1
        refine w_neNilT (SqL.of (g4.kp _ _ hml (by simp))) (hts.fr g4) hdp (by omega) (SqL.of h_e1) ?_
        walk_at "st"
        by_cases c0 : ms = []
        · rw [decide_eq_true c0]
          refine w_no rfl ?_
          walk_at "st"
          exact hnx _ _ ⟨rfl, f_e1, fun z => z.1 c0⟩
        · rw [decide_eq_false c0]
          refine w_yes rfl ?_
          walk_at "st"
          refine w_ixT (SqT.of (f_e1.tup hq)) (atI_nat (j := 1) rfl) ?_
          walk_at "st"
          refine w_slS tz ?_
          refine ⟨_, _, rfl, rfl, ?_⟩
          walk_at "st"
          have ed : (decide (lastS.cps.toList < (cutS t (some (a' : Int)) (some (p : Int))).cps.toList)) = decide (TL.tl lastS < sg (TL.tl t) a' p) := by rw [← ecut]
          rw [ed]
          by_cases c1 : TL.tl lastS < sg (TL.tl t) a' p
          · rw [decide_eq_true c1]
            refine w_no rfl ?_
            walk_at "st"
            exact hnx _ _ ⟨rfl, f_e1, fun z => z.2 c1⟩
          · rw [decide_eq_false c1]
            refine w_yes rfl ?_
            walk_at "st"
            refine q0 ?_ H4 (g.trans g4)
            rw [← hsl, unf, if_pos ⟨c0, c1⟩]
      · rintro σ' H4 ⟨rfl, g4, cnd⟩
        rw [unf, if_neg cnd] at hsl
        have g34 := g3.trans g4
        have hml4 := g34.kp _ _ hml (by simp)
        have hq4 := g4.tup hq
        have xl := hts.len
        walk_at "st"
        refine w_tyL (SqL.of hml4) ?_
        walk_at "st"
        refine w_ixT (SqT.of hq4) (atI_nat (j := 0) rfl) ?_
        walk_at "st"
        refine w_append hml4 (by rw [xl, sizeLine_eq]; omega) ?_
        have n_ml0 : H ml = none := n_ml
        have f5 : Fr [ml] H4 (upd H4 ml (.lst (xs ++ [v]))) := Fr.at (Fr.refl _ _) (by simp) hml4 rfl
        have h5 : (upd H4 ml (.lst (xs ++ [v]))) ml = some (.lst (xs ++ [v])) := upd_same
        have g5 : Fr [] H (upd H4 ml (.lst (xs ++ [v]))) := (g.trans g34).put n_ml
        generalize upd H4 ml (.lst (xs ++ [v])) = H5 at *
        have hts5 : TrsAt H5 (xs ++ [v]) (ms ++ [m]) := (hts.fr (g34.of0.trans f5)).app (.cons (hv.fr (g4.of0.trans f5)) .nil)
        have hq5 := f5.tup hq4
        walk_at "st"
        refine w_ixT (SqT.of hq5) (atI_nat (j := 1) rfl) ?_
        walk_at "st"
        refine w_slS tz ?_
        walk_at "st"
        refine w_ixT (SqT.of hq5) (atI_nat (j := 1) rfl) ?_
        walk_at "st"
        refine w_ixT (SqT.of hq5) (atI_nat (j := 1) rfl) ?_
        walk_at "st"
        refine w_slS tz ?_
        walk_at "st"
        rw [cut1 he]
        have hdp5 : ∀ t ∈ ms ++ [m], t.dep ≤ r := fun t ht => by
          rcases List.mem_append.mp ht with z | z
          · exact hdp t z
          · rw [List.mem_singleton.mp z]; exact hmd
        refine w_dec (fun c2 => ?_) fun c2 => ?_
        · walk_at "st"
          intro q' n_q'
          have f_q' : Fr [] H5 (upd H5 q' (.tup [.ref ml, .int ((p : Int) + 1)])) := Fr.new n_q'
          have h_q' : (upd H5 q' (.tup [.ref ml, .int ((p : Int) + 1)])) q' = some (.tup [.ref ml, .int ((p : Int) + 1)]) := upd_same
          generalize upd H5 q' (.tup [.ref ml, .int ((p : Int) + 1)]) = H6 at *
          rw [if_pos c2] at hsl
          exact q1 _ (p + 1) hsl.symm H6 q' ml _ (g5.trans f_q') h_q' (f_q'.kp _ _ h5 (by simp)) (hts5.fr f_q')
        · rw [if_neg c2] at hsl
          walk_at "st"
          have ec : decide (cutS t (some (p : Int)) (some ((p : Int) + 1)) = ("," : Str)) = decide (sg (TL.tl t) p (p + 1) = [44]) := cut1 (by decide +kernel)
          rw [ec]
          refine w_decN (fun c3 => ?_) fun c3 => ?_
          · walk_at "st"
            refine q0 ?_ H5 g5
            rw [← hsl, if_neg c3]
          · rw [if_pos c3] at hsl
            have ep : ((p : Int) + 1) = ((p + 1 : Nat) : Int) := by omega
            rw [ep]
            refine ⟨_, ?_, f', ms ++ [m], _, p + 1, xs ++ [v], _, _, rfl, g5, h5, hts5, ?_, by omega, ?_, hdp5, rfl⟩
            · omega
            · rw [ecut]; exact hsl
            · rw [List.length_append, List.length_singleton]; omega
abbrev s_game_read : Stmt := topS 10
theorem sc_game_read : FnScope ["text", "at", "room", "left", "right"] ["text", "at", "room"] (defScope s_game_read) := ⟨rfl, rfl, rfl, by decide +kernel, rfl, by decide +kernel, by decide +kernel⟩
theorem rc_game_read {n : Nat} (B : Blt mg) (d_side_read : DefOk P w K mg base CX0 (2 * n + 1) "side_read" ["text", "at", "end", "room"] (sp4 (cSRead n))) (S : Src K mg "game_read" s_game_read ["text", "at", "room"]) : DefOk P w K mg base CX0 (2 * n + 2) "game_read" ["text", "at", "room"] (sp3 (cGRead n)) := by
  refine S.ok sc_game_read len3 fun f cdv A outer s H vs Q E hr h => ?_
  obtain ⟨text, at_, room, rfl, t, a, r, rfl, rfl, rfl, hn, hn28, hz, q0, q1⟩ := h
  have hu := hu_of hr
  have hu64 := hr.units
  refine ⟨_, (pss_cons (ps_if (pt_cmpR op_eq (pe_slice sl_str (pv 0) (po_some (pv 1)) (po_some (pe_op op_add (pv 1) pe_int))) pe_str (nomark _))
      (pss_one (ps_ret (pe_tup (pa_cons (pe_tup (pa_cons (pe_tup pa_nil) (pa_cons (pe_tup pa_nil) pa_nil))) (pa_cons (pe_op op_add (pv 1) pe_int) pa_nil)))))
      pss_nil)
    (pss_cons (ps_if (PW.pt (pw_or (pt_cmpR op_ne (pe_slice sl_str (pv 0) (po_some (pv 1)) (po_some (pe_op op_add (pv 1) pe_int))) pe_str (nomark _)) (pw_or1 (pt_cmpR op_eq (pv 2) pe_int (nomark _)))))
      (pss_one (ps_ret pe_non))
      pss_nil)
    (pss_cons (ps_set (i := 3) sc_game_read.nd rfl (Or.inl rfl) (pe_fn d_side_read (hr.mono (by omega)) pass0 (pa_cons (pv 0) (pa_cons (pe_op op_add (pv 1) pe_int) (pa_cons pe_str (pa_cons (pe_op op_sub (pv 2) pe_int) pa_nil))))))
    (pss_cons (ps_if (pt_cmpR op_isN (pv 3) pe_non (nomark _))
      (pss_one (ps_ret pe_non))
      pss_nil)
    (pss_cons (ps_set (i := 4) sc_game_read.nd rfl (Or.inl rfl) (pe_fn d_side_read (hr.mono (by omega)) pass0 (pa_cons (pv 0) (pa_cons (pe_ix (ixT K) (pv 3) pe_int (fun _ _ => rfl)) (pa_cons pe_str (pa_cons (pe_op op_sub (pv 2) pe_int) pa_nil))))))
    (pss_cons (ps_if (PW.pt (pw_or (pt_cmpR op_isN (pv 4) pe_non (nomark _)) (pw_or1 (pt_cmpR (oEqD K hu64) (pe_op op_cat (pe_ix (ixT K) (pv 3) pe_int (fun _ _ => rfl)) (pe_ix (ixT K) (pv 4) pe_int (fun _ _ => rfl))) (pe_lst pa_nil) (nomark _)))))
      (pss_one (ps_ret pe_non))
      pss_nil)
    (pss_one (ps_ret (pe_tup (pa_cons (pe_tup (pa_cons (pe_callTy (cTupOf K) (by rfl) B.k_tuple bb_tuple (pa_cons (pe_ix (ixT K) (pv 3) pe_int (fun _ _ => rfl)) pa_nil)) (pa_cons (pe_callTy (cTupOf K) (by rfl) B.k_tuple bb_tuple (pa_cons (pe_ix (ixT K) (pv 4) pe_int (fun _ _ => rfl)) pa_nil)) pa_nil))) (pa_cons (pe_ix (ixT K) (pv 4) pe_int (fun _ _ => rfl)) pa_nil))))))))))), ?_⟩
  have tz : t.length ≤ sizeLine := by rw [sizeLine_eq]; omega
  have e0 : TL.tl "0" = [48] := by decide +kernel
  have e1 : TL.tl "{" = [123] := by decide +kernel
  have e2 : TL.tl "|" = [124] := by decide +kernel
  have e3 : TL.tl "}" = [125] := by decide +kernel
  walk_at "st"
  refine w_slS tz ?_
  walk_at "st"
  rw [cut1 e0]
  refine w_dec (fun c => ?_) fun c => ?_
  · walk_at "st"
    intro a1 n_a1
    have f_a1 : Fr [] H (upd H a1 (.tup [])) := Fr.new n_a1
    have h_a1 : (upd H a1 (.tup [])) a1 = some (.tup []) := upd_same
    generalize upd H a1 (.tup []) = H1 at *
    walk_at "st"
    intro a2 n_a2
    have f_a2 : Fr [] H1 (upd H1 a2 (.tup [])) := Fr.new n_a2
    have h_a2 : (upd H1 a2 (.tup [])) a2 = some (.tup []) := upd_same
    generalize upd H1 a2 (.tup []) = H2 at *
    walk_at "st"
    intro a3 n_a3
    have f_a3 : Fr [] H2 (upd H2 a3 (.tup [.ref a1, .ref a2])) := Fr.new n_a3
    have h_a3 : (upd H2 a3 (.tup [.ref a1, .ref a2])) a3 = some (.tup [.ref a1, .ref a2]) := upd_same
    generalize upd H2 a3 (.tup [.ref a1, .ref a2]) = H3 at *
    walk_at "st"
    intro q n_q
    have f_q : Fr [] H3 (upd H3 q (.tup [.ref a3, .int ((a : Int) + 1)])) := Fr.new n_q
    have h_q : (upd H3 q (.tup [.ref a3, .int ((a : Int) + 1)])) q = some (.tup [.ref a3, .int ((a : Int) + 1)]) := upd_same
    generalize upd H3 q (.tup [.ref a3, .int ((a : Int) + 1)]) = H4 at *
    refine q1 (.mk [] []) (a + 1) (by cases r <;> (unfold gread; rw [if_pos c])) H4 q (.ref a3) (((f_a1.trans f_a2).trans f_a3).trans f_q) h_q ?_
    exact .mk (f_q.tup h_a3) (f_q.tup (f_a3.tup (f_a2.tup h_a1))) (f_q.tup (f_a3.tup h_a2)) .nil .nil
  · walk_at "st"
    refine w_slS tz ?_
    walk_at "st"
    rw [cut1 e1]
    refine w_decN (fun c1 => ?_) fun c1 => ?_
    · walk_at "st"
      refine q0 (by cases r <;> (unfold gread; rw [if_neg c]) <;> rw [if_neg c1]) H (Fr.refl _ _)
    · walk_at "st"
      cases r with
      | zero =>
        refine w_yes (by rfl) ?_
        walk_at "st"
        exact q0 (by unfold gread; rw [if_neg c]) H (Fr.refl _ _)
      | succ r =>
        refine w_no (by simp; omega) ?_
        walk_at "st"
        have er : (((r + 1 : Nat) : Int) - 1) = (r : Int) := by omega
        have ea : ((a : Int) + 1) = ((a + 1 : Nat) : Int) := by omega
        rw [er, ea]
        refine ⟨t, "|", a + 1, r, 124, rfl, rfl, rfl, e2, rfl, by omega, hn28, hz, fun hno H1 g1 => ?_, fun ls p hso H1 q l xs g1 hq hl hts => ?_⟩
        · walk_at "st"
          refine ⟨rfl, ?_⟩
          walk_at "st"
          exact q0 (gr_n1 c c1 hno) H1 g1
        · walk_at "st"
          refine ⟨rfl, ?_⟩
          walk_at "st"
          refine w_no rfl ?_
          walk_at "st"
          refine w_ixT (SqT.of hq) (atI_nat (j := 1) rfl) ?_
          walk_at "st"
          rw [er]
          have gd := sread_dep (gread_dep (TL.tl t) r) hso
          refine ⟨t, "}", p, r, 125, rfl, rfl, rfl, e3, rfl, by omega, hn28, hz, fun hno H2 g2 => ?_, fun rs p2 hso2 H2 q2 l2 ys g2 hq2 hl2 hts2 => ?_⟩
          · walk_at "st"
            refine ⟨rfl, ?_⟩
            walk_at "st"
            refine w_yes rfl ?_
            walk_at "st"
            exact q0 (gr_n2 c c1 hso hno) H2 (g1.trans g2)
          · have gd2 := sread_dep (gread_dep (TL.tl t) r) hso2
            have hso3 := gr_s c c1 hso hso2
            have fw2 := sread_fwd (gread_fwd (TL.tl t) r) hso
            walk_at "st"
            refine ⟨rfl, ?_⟩
            walk_at "st"
            refine w_no rfl ?_
            walk_at "st"
            have hq' := g2.tup hq
            have hl' := g2.kp _ _ hl (by simp)
            have hts' := hts.fr g2
            refine w_ixT (SqT.of hq') (atI_nat (j := 0) rfl) ?_
            walk_at "st"
            refine w_ixT (SqT.of hq2) (atI_nat (j := 0) rfl) ?_
            have x1 := hts.len
            have x2 := hts2.len
            refine w_cat hl' hl2 (by rw [x1, x2, sizeLine_eq]; have z1 := sread_len (gread_fwd (TL.tl t) r) hso; have z2 := sread_len (gread_fwd (TL.tl t) r) hso2; have z3 := sread_fwd (gread_fwd (TL.tl t) r) hso2; have z4 := TL.len_tl t; omega) ?_
            intro cl n_cl
            have f_cl : Fr [] H2 (upd H2 cl (.lst (xs ++ ys))) := Fr.new n_cl
            have h_cl : (upd H2 cl (.lst (xs ++ ys))) cl = some (.lst (xs ++ ys)) := upd_same
            generalize upd H2 cl (.lst (xs ++ ys)) = H3 at *
            walk_at "st"
            intro el n_el
            have f_el : Fr [] H3 (upd H3 el (.lst [])) := Fr.new n_el
            have h_el : (upd H3 el (.lst [])) el = some (.lst []) := upd_same
            generalize upd H3 el (.lst []) = H4 at *
            have gcat := (hts'.app hts2).fr (f_cl.trans f_el)
            have gdc : ∀ t ∈ ls ++ rs, t.dep ≤ r := fun t ht => by
              rcases List.mem_append.mp ht with z | z
              · exact gd t z
              · exact gd2 t z
            refine w_eqNilT (SqL.of (f_el.kp _ _ h_cl (by simp))) gcat gdc (by omega) (SqL.of h_el) ?_
            walk_at "st"
            have g24 := f_cl.trans f_el
            have g04 := (g1.trans g2).trans g24
            by_cases c2 : ls ++ rs = []
            · rw [decide_eq_true c2]
              refine w_yes rfl ?_
              walk_at "st"
              exact q0 (by rw [hso3, if_pos (app_nil2.mp c2)]) H4 g04
            · rw [decide_eq_false c2]
              refine w_no rfl ?_
              rw [if_neg fun z => c2 (app_nil2.mpr z)] at hso3
              walk_at "st"
              refine w_ixT (SqT.of (g24.tup hq')) (atI_nat (j := 0) rfl) ?_
              walk_at "st"
              refine w_tupL (SqL.of (g24.kp _ _ hl' (by simp))) ?_
              intro tl' n_tl'
              have f_tl' : Fr [] H4 (upd H4 tl' (.tup xs)) := Fr.new n_tl'
              have h_tl' : (upd H4 tl' (.tup xs)) tl' = some (.tup xs) := upd_same
              generalize upd H4 tl' (.tup xs) = H5 at *
              walk_at "st"
              refine w_ixT (SqT.of (f_tl'.tup (g24.tup hq2))) (atI_nat (j := 0) rfl) ?_
              walk_at "st"
              refine w_tupL (SqL.of (f_tl'.kp _ _ (g24.kp _ _ hl2 (by simp)) (by simp))) ?_
              intro tr' n_tr'
              have f_tr' : Fr [] H5 (upd H5 tr' (.tup ys)) := Fr.new n_tr'
              have h_tr' : (upd H5 tr' (.tup ys)) tr' = some (.tup ys) := upd_same
              generalize upd H5 tr' (.tup ys) = H6 at *
              walk_at "st"
              intro tn' n_tn'
              have f_tn' : Fr [] H6 (upd H6 tn' (.tup [.ref tl', .ref tr'])) := Fr.new n_tn'
              have h_tn' : (upd H6 tn' (.tup [.ref tl', .ref tr'])) tn' = some (.tup [.ref tl', .ref tr']) := upd_same
              generalize upd H6 tn' (.tup [.ref tl', .ref tr']) = H7 at *
              walk_at "st"
              refine w_ixT (SqT.of (f_tn'.tup (f_tr'.tup (f_tl'.tup (g24.tup hq2))))) (atI_nat (j := 1) rfl) ?_
              walk_at "st"
              intro tf' n_tf'
              have f_tf' : Fr [] H7 (upd H7 tf' (.tup [.ref tn', .int (p2 : Int)])) := Fr.new n_tf'
              have h_tf' : (upd H7 tf' (.tup [.ref tn', .int (p2 : Int)])) tf' = some (.tup [.ref tn', .int (p2 : Int)]) := upd_same
              generalize upd H7 tf' (.tup [.ref tn', .int (p2 : Int)]) = H8 at *
              have g58 := ((f_tl'.trans f_tr').trans f_tn').trans f_tf'
              refine q1 (.mk ls rs) p2 hso3 H8 tf' (.ref tn') (g04.trans g58) h_tf' ?_
              exact .mk (f_tf'.tup h_tn') (f_tf'.tup (f_tn'.tup (f_tr'.tup h_tl'))) (f_tf'.tup (f_tn'.tup h_tr')) ((hts'.fr g24).fr g58) ((hts2.fr g24).fr g58)
end

/-! ### a tree into a book -/

section
variable {P : Program} {w : World} {K : PySem.W.Frag} {mg : Str → Option Value} {base : Heap} {CB CE CN : Addr}
def cPutTree (P : Program) (w : World) (CB : Addr) (n : Nat) : P2' := fun bk tv H Q _ => ∃ k B t, bk = .ref k.p ∧ BookAt P w CB H k B ∧ TrAt H tv t ∧ t.dep < n ∧ n ≤ 28 ∧ t.wide ∧ B.length + t.sz ≤ 900000 ∧ ∀ H', BookAt P w CB H' k (putT B t).1 → Fr k.S H H' → Q (.int ((putT B t).2 : Nat)) H'
theorem n_gam' : (("game" : Str) == ("moves" : Str)) = false ∧ (("game" : Str) == ("numbers" : Str)) = false ∧ (("game" : Str) == ("depths" : Str)) = false := by decide +kernel
def Tr.zero : Tr → Bool
  | .mk l r => l.isEmpty && r.isEmpty
theorem w_eqTree {H : Hp} {Q : VK} {v : V} {b : Addr} {t : Tr} (h : TrAt H v t) (hd : t.dep ≤ 28) (hb : Dp K H (.ref b) (.tuple [.tuple [], .tuple []])) (q : Q (.bl t.zero) H) : rEqD K v (.ref b) H Q := by
  refine ⟨_, _, h.dp, hb, ?_, rfl, ?_⟩
  · unfold SeqAt.shaped
    have := Tr.depD t
    rw [Tr.can, Bool.true_and]
    exact decide_eq_true (by omega)
  · have e : PyData.eqv t.data (.tuple [.tuple [], .tuple []]) = t.zero := by
      have h := Tr.eqv0 t
      obtain ⟨l, r⟩ := t
      refine Bool.eq_iff_iff.mpr (h.trans ?_)
      show _ ↔ (l.isEmpty && r.isEmpty) = true
      rw [Bool.and_eq_true, List.isEmpty_iff, List.isEmpty_iff]
      constructor
      · intro z; cases z; exact ⟨rfl, rfl⟩
      · rintro ⟨a, b⟩; rw [a, b]
    rw [e]; exact q
abbrev s_put_tree : Stmt := topS 11
theorem sc_put_tree : FnScope ["book", "tree", "lefts", "move"] ["book", "tree"] (defScope s_put_tree) := ⟨rfl, rfl, rfl, by decide +kernel, rfl, by decide +kernel, by decide +kernel⟩
theorem rc_put_tree0 (B : Blt mg) (S : Src K mg "put_tree" s_put_tree ["book", "tree"]) : DefOk P w K mg base CX0 2 "put_tree" ["book", "tree"] (sp2 (cPutTree P w CB 0)) := by
  refine S.ok sc_put_tree len2 fun f cdv A outer s H vs Q E hr h => ?_
  obtain ⟨_, _, _, _, _, _, _, _, _, h, _⟩ := h
  exact absurd h (Nat.not_lt_zero _)
theorem rc_put_tree {n : Nat} (B : Blt mg) (d_put_tree : DefOk P w K mg base CX0 (n + 2) "put_tree" ["book", "tree"] (sp2 (cPutTree P w CB n))) (d_Book_game : MtOk P w K mg base (L2.CX P w) 2 CB "game" ["self", "lefts", "rights"] (sp3 (cGame P w K CB))) (S : Src K mg "put_tree" s_put_tree ["book", "tree"]) : DefOk P w K mg base CX0 (n + 3) "put_tree" ["book", "tree"] (sp2 (cPutTree P w CB (n + 1))) := by
  refine S.ok sc_put_tree len2 fun f cdv A outer s H vs Q E hr h => ?_
  obtain ⟨bk, tv, rfl, k, Bo, t, rfl, b, ht, hd, hn, hw, hz, q⟩ := h
  have hu := hu_of hr
  have hu64 := hr.units
  refine ⟨_, (pss_cons (ps_if (pt_cmpR (oEqD K hu64) (pv 1) (pe_tup (pa_cons (pe_tup pa_nil) (pa_cons (pe_tup pa_nil) pa_nil))) (nomark _))
      (pss_one (ps_ret pe_int))
      pss_nil)
    (pss_cons (ps_setLc (i := 2) (own := [("move", 3)]) (g := gName 3) (tt := tYes) rfl sc_put_tree.nd rfl rfl (sw_true rfl rfl rfl (by decide +kernel)) (iT K (pe_ix (ixT K) (pv 1) pe_int (fun _ _ => rfl))) (blkOk_by (N := ["book", "tree", "lefts", "move"]) (sc := defScope s_put_tree) (by decide +kernel)) (fun _ _ _ _ _ => by exact (pg_name (i := 3) sc_put_tree.nd rfl (Or.inl rfl))) (fun _ _ _ _ _ => by exact pts_nil) (fun _ _ _ _ _ => by exact (pe_fn d_put_tree (hr.mono (by omega)) pass0 (pa_cons (pv 0) (pa_cons (pv 3) pa_nil)))))
    (pss_one (ps_ret (pe_mt (pv 0) d_Book_game (hr.mono (by omega)) passL (pa_cons (pv 2) (pa_cons (pe_lc (own := [("move", 3)]) (g := gName 3) (tt := tYes) rfl sc_put_tree.nd (iT K (pe_ix (ixT K) (pv 1) pe_int (fun _ _ => rfl))) (blkOk_by (N := ["book", "tree", "lefts", "move"]) (sc := defScope s_put_tree) (by decide +kernel)) (fun _ _ _ _ _ => by exact (pg_name (i := 3) sc_put_tree.nd rfl (Or.inl rfl))) (fun _ _ _ _ _ => by exact pts_nil) (fun _ _ _ _ _ => by exact (pe_fn d_put_tree (hr.mono (by omega)) pass0 (pa_cons (pv 0) (pa_cons (pv 3) pa_nil))))) pa_nil))))))), ?_⟩
  walk_at "st"
  intro a1 n_a1
  have f_a1 : Fr [] H (upd H a1 (.tup [])) := Fr.new n_a1
  have h_a1 : (upd H a1 (.tup [])) a1 = some (.tup []) := upd_same
  generalize upd H a1 (.tup []) = H1 at *
  walk_at "st"
  intro a2 n_a2
  have f_a2 : Fr [] H1 (upd H1 a2 (.tup [])) := Fr.new n_a2
  have h_a2 : (upd H1 a2 (.tup [])) a2 = some (.tup []) := upd_same
  generalize upd H1 a2 (.tup []) = H2 at *
  walk_at "st"
  intro a3 n_a3
  have f_a3 : Fr [] H2 (upd H2 a3 (.tup [.ref a1, .ref a2])) := Fr.new n_a3
  have h_a3 : (upd H2 a3 (.tup [.ref a1, .ref a2])) a3 = some (.tup [.ref a1, .ref a2]) := upd_same
  generalize upd H2 a3 (.tup [.ref a1, .ref a2]) = H3 at *
  have f3 := (f_a1.trans f_a2).trans f_a3
  refine w_eqTree (ht.fr f3) (by omega) (.tup (SqT.of h_a3) (.cons (.tup (SqT.of (f_a3.tup (f_a2.tup h_a1))) .nil) (.cons (.tup (SqT.of (f_a3.tup h_a2)) .nil) .nil))) ?_
  walk_at "st"
  obtain ⟨ls, rs⟩ := t
  cases ht with
  | @mk ta la ra xs ys _ _ h hl hr' tl tr =>
  have hz0 : (Tr.mk ls rs).zero = (ls.isEmpty && rs.isEmpty) := rfl
  refine w_bool (fun c => ?_) fun c => ?_
  · walk_at "st"
    rw [hz0] at c
    have e : putT Bo (.mk ls rs) = (Bo, 0) := by unfold putT; rw [if_pos c]
    rw [e] at q
    exact q H3 (b.fr0 f3) f3.of0
  · rw [hz0] at c
    have e : putT Bo (.mk ls rs) = put (putTs (putTs Bo ls).1 rs).1 (nrm (putTs Bo ls).2, nrm (putTs (putTs Bo ls).1 rs).2) := by unfold putT; rw [if_neg (by rw [c]; exact Bool.false_ne_true)]
    rw [e] at q
    walk_at "st"
    have b3 := b.fr0 f3
    have okA := putTs_ok Bo ls b.ok
    have okB := putTs_ok (putTs Bo ls).1 rs okA.ok
    have szt : (Tr.mk ls rs).sz = 1 + (Tr.szs ls + Tr.szs rs) := rfl
    have dpt : (Tr.mk ls rs).dep = max (Tr.deps ls) (Tr.deps rs) := rfl
    have szA := okA.size
    have szB := okB.size
    have dl : ∀ t ∈ ls, t.dep < n := fun t ht => by
      have h1 : Tr.deps ls ≤ n := by omega
      cases n with
      | zero =>
        exfalso
        cases ls with
        | nil => simp at ht
        | cons a l => have : max (a.dep + 1) (Tr.deps l) ≤ 0 := h1; omega
      | succ n => exact Nat.lt_succ_of_le (Tr.deps_le.mp h1 t ht)
    have dr : ∀ t ∈ rs, t.dep < n := fun t ht => by
      have h1 : Tr.deps rs ≤ n := by omega
      cases n with
      | zero =>
        exfalso
        cases rs with
        | nil => simp at ht
        | cons a l => have : max (a.dep + 1) (Tr.deps l) ≤ 0 := h1; omega
      | succ n => exact Nat.lt_succ_of_le (Tr.deps_le.mp h1 t ht)
    obtain ⟨w1, w2, w3, w4⟩ := hw
    have tl3 := tl.fr f3
    have h3 := f3.tup h
    have hl3 := f3.tup hl
    refine w_ixT (SqT.of h3) (atI_nat (j := 0) rfl) ?_
    walk_at "st"
    have dS1 : ∀ D, H3 D = none → D ∉ k.S := fun D h => b3.offN h
    refine c_tup (SqT.of hl3) (fun D i G => H3 D = none ∧ Fr k.S H3 G ∧ BookAt P w CB G k (putTs Bo (ls.take i)).1 ∧ G D = some (.lst (nV (putTs Bo (ls.take i)).2))) (fun D G n g e => ⟨n, g.of0, b3.fr0 g, e⟩) (fun D i G _ p => SqT.of (p.2.1.tup hl3)) ?_ ?_
    · rintro D i x G hx ⟨nD, g, bi, e⟩
      obtain ⟨t, ht, hv⟩ := tl3.get hx
      have tm := List.mem_of_getElem? ht
      have okl := putTs_ok Bo (ls.take i) b3.ok
      have sz1 := Tr.szs_take ht
      have sz2 := okl.size
      walk_at "st"
      refine ⟨k, _, t, rfl, bi, hv.fr g, dl t tm, by omega, Tr.wides_mem w3 t tm, by omega, fun G' b' g' => ?_⟩
      have DS := dS1 D nD
      have e' := g'.kp _ _ e DS
      refine ⟨_, e', ?_, nD, (g.trans g').put nD, ?_, ?_⟩
      · rw [nV_len, putTs_len, List.length_take, sizeLine_eq]; have := w1; omega
      · rw [putTs_take ht]
        exact b'.fr (Fr.at (Fr.refl [D] _) (by simp) e' rfl) fun a ha => by simp; intro z; subst z; exact DS ha
      · rw [upd_same, putTs_take ht]; unfold nV; rw [List.map_append]; rfl
    rintro D1 G1 nD1 ⟨_, g1, b1, e1⟩
    rw [List.take_of_length_le (by rw [tl.len]; exact Nat.le_refl _)] at b1 e1
    walk_at "st"
    refine w_bmt b1.obj n_gam'.1 n_gam'.2.1 n_gam'.2.2 ?_
    walk_at "st"
    refine w_ixT (SqT.of (g1.tup h3)) (atI_nat (j := 1) rfl) ?_
    have tr1 := (tr.fr f3).fr g1
    have hr1 := g1.tup (f3.tup hr')
    walk_at "st"
    have dS2 : ∀ D, G1 D = none → D ∉ k.S := fun D h => b1.offN h
    refine c_tup (SqT.of hr1) (fun D i G => G1 D = none ∧ Fr k.S G1 G ∧ BookAt P w CB G k (putTs (putTs Bo ls).1 (rs.take i)).1 ∧ G D = some (.lst (nV (putTs (putTs Bo ls).1 (rs.take i)).2))) (fun D G n g e => ⟨n, g.of0, b1.fr0 g, e⟩) (fun D i G _ p => SqT.of (p.2.1.tup hr1)) ?_ ?_
    · rintro D i x G hx ⟨nD, g, bi, e⟩
      obtain ⟨t, ht, hv⟩ := tr1.get hx
      have tm := List.mem_of_getElem? ht
      have okl := putTs_ok (putTs Bo ls).1 (rs.take i) b1.ok
      have sz1 := Tr.szs_take ht
      have sz2 := okl.size
      walk_at "st"
      refine ⟨k, _, t, rfl, bi, hv.fr g, dr t tm, by omega, Tr.wides_mem w4 t tm, by omega, fun G' b' g' => ?_⟩
      have DS := dS2 D nD
      have e' := g'.kp _ _ e DS
      refine ⟨_, e', ?_, nD, (g.trans g').put nD, ?_, ?_⟩
      · rw [nV_len, putTs_len, List.length_take, sizeLine_eq]; have := w2; omega
      · rw [putTs_take ht]
        exact b'.fr (Fr.at (Fr.refl [D] _) (by simp) e' rfl) fun a ha => by simp; intro z; subst z; exact DS ha
      · rw [upd_same, putTs_take ht]; unfold nV; rw [List.map_append]; rfl
    rintro D2 G2 nD2 ⟨_, g2, b2, e2⟩
    rw [List.take_of_length_le (by rw [tr.len]; exact Nat.le_refl _)] at b2 e2
    walk_at "st"
    have e12 := g2.kp _ _ e1 (dS1 D1 nD1)
    refine ⟨k, _, D1, D2, (putTs Bo ls).2, (putTs (putTs Bo ls).1 rs).2, rfl, rfl, rfl, b2, by omega, SqL.of e12, SqL.of e2, by rw [putTs_len]; exact w1, by rw [putTs_len]; exact w2, fun m hm => ?_, fun G3 b3 g3 => ?_⟩
    · rcases List.mem_append.mp hm with z | z
      · exact Nat.lt_of_lt_of_le (okA.low m z) (pre_len okB.pre)
      · exact okB.low m z
    · exact q G3 b3 (((f3.of0.trans g1).trans g2).trans g3)
end

/-! ### read -/

section
variable {P : Program} {w : World} {K : PySem.W.Frag} {mg : Str → Option Value} {base : Heap} {CB CE CG CT : Addr}
theorem ok_game_read (B : Blt mg) (S_side_read : Src K mg "side_read" s_side_read ["text", "at", "end", "room"]) (S : Src K mg "game_read" s_game_read ["text", "at", "room"]) : DefOk P w K mg base CX0 26 "game_read" ["text", "at", "room"] (sp3 (cGRead 12)) := by
  have h : ∀ n, DefOk P w K mg base CX0 (2 * n + 1) "side_read" ["text", "at", "end", "room"] (sp4 (cSRead n)) ∧ DefOk P w K mg base CX0 (2 * n + 2) "game_read" ["text", "at", "room"] (sp3 (cGRead n)) := by
    intro n
    induction n with
    | zero => exact ⟨rc_side_read0 B S_side_read, rc_game_read B (rc_side_read0 B S_side_read) S⟩
    | succ n ih =>
      have h1 := rc_side_read B ih.2 S_side_read
      exact ⟨h1, rc_game_read (n := n + 1) B h1 S⟩
  exact (h 12).2
theorem ok_put_tree (B : Blt mg) (d_Book_game : MtOk P w K mg base (L2.CX P w) 2 CB "game" ["self", "lefts", "rights"] (sp3 (cGame P w K CB))) (S : Src K mg "put_tree" s_put_tree ["book", "tree"]) : DefOk P w K mg base CX0 15 "put_tree" ["book", "tree"] (sp2 (cPutTree P w CB 13)) := by
  have h : ∀ n, DefOk P w K mg base CX0 (n + 2) "put_tree" ["book", "tree"] (sp2 (cPutTree P w CB n)) := by
    intro n
    induction n with
    | zero => exact rc_put_tree0 B S
    | succ n ih => exact rc_put_tree B ih d_Book_game S
  exact h 13
/-- the program's own number -/
structure DeepT (mg : Str → Option Value) : Prop where
  g_DEEPEST : ∃ tk, mg "DEEPEST" = some (.int 12 tk)
def cRead (P : Program) (w : World) (K : PySem.W.Frag) (CB CT : Addr) : P2' := fun bk th H Q E => ∃ k B, bk = .ref k.p ∧ BookAt P w CB H k B ∧ B.length ≤ 100000 ∧
  ((∃ t : Str, th = .str t ∧ t.length ≤ 100000 ∧ ((∃ m, gread (TL.tl t) 12 0 = some (m, t.length) ∧ m.wide ∧ ∀ H', BookAt P w CB H' k (putT B m).1 → Fr k.S H H' → Q (.int ((putT B m).2 : Nat)) H') ∨ ((∀ m, gread (TL.tl t) 12 0 ≠ some (m, t.length)) ∧ ∀ H', Fr [] H H' → E (.ref CT) none H'))) ∨
   ∃ ty, TyX K H th ty ∧ PySem.W.kitOne K ty (.type "str") = some false ∧ E (.ref CT) none H)
abbrev s_read : Stmt := topS 12
theorem sc_read : FnScope ["book", "text", "found"] ["book", "text"] (defScope s_read) := ⟨rfl, rfl, rfl, by decide +kernel, rfl, by decide +kernel, by decide +kernel⟩
theorem ok_read (B : Blt mg) (x_NoText : Xc K mg "NoText" CT) (DT : DeepT mg) (d_game_read : DefOk P w K mg base CX0 26 "game_read" ["text", "at", "room"] (sp3 (cGRead 12))) (d_put_tree : DefOk P w K mg base CX0 15 "put_tree" ["book", "tree"] (sp2 (cPutTree P w CB 13))) (S : Src K mg "read" s_read ["book", "text"]) : DefOk P w K mg base (L2.CX P w) 27 "read" ["book", "text"] (sp2 (cRead P w K CB CT)) := by
  refine S.okX sc_read len2 fun f cdv A outer s H vs Q E hr h => ?_
  obtain ⟨bk, th, rfl, k, Bo, rfl, b, hz, h⟩ := h
  have hu := hu_of hr
  have hu64 := hr.units
  obtain ⟨tk, gD⟩ := DT.g_DEEPEST
  refine ⟨_, (pss_cons (ps_if (pt_not (pt_val (pe_callB (cIsi K) (by rfl) B.k_isinstance bb_isinstance (pa_cons (pv 1) (pa_cons (pe_bltn (v := .ty "str") (by rfl) B.k_str bb_str rfl) pa_nil)))))
      (pss_one (ps_raise rfl (takes_of rfl rfl rfl rfl) (pmk_own PySem.F.excBase_ValueError x_NoText.xP x_NoText.gP x_NoText.kP (raises_own x_NoText.bP x_NoText.tP) rfl)))
      pss_nil)
    (pss_cons (ps_set (i := 2) sc_read.nd rfl (Or.inl rfl) (pe_fn d_game_read (hr.mono (by omega)) pass0 (pa_cons (pv 1) (pa_cons pe_int (pa_cons (pe_glob (v := .int 12) rfl gD ⟨_, rfl⟩) pa_nil)))))
    (pss_cons (ps_if (PW.pt (pw_or (pt_cmpR op_isN (pv 2) pe_non (nomark _)) (pw_or1 (pt_cmpR op_ne (pe_ix (ixT K) (pv 2) pe_int (fun _ _ => rfl)) (pe_callB call_len (by rfl) B.k_len bb_len (pa_cons (pv 1) pa_nil)) (nomark _)))))
      (pss_one (ps_raise rfl (takes_of rfl rfl rfl rfl) (pmk_own PySem.F.excBase_ValueError x_NoText.xP x_NoText.gP x_NoText.kP (raises_own x_NoText.bP x_NoText.tP) rfl)))
      pss_nil)
    (pss_one (ps_ret (pe_fn d_put_tree (hr.mono (by omega)) pass0 (pa_cons (pv 0) (pa_cons (pe_ix (ixT K) (pv 2) pe_int (fun _ _ => rfl)) pa_nil)))))))), ?_⟩
  walk_at "st"
  rcases h with ⟨t, rfl, tz, h⟩ | ⟨ty, hty, hk, q⟩
  rotate_left
  · refine w_isi hty (.ty _) hk ?_
    walk_at "st"
    exact q
  refine w_isi (.base (.str _)) (.ty _) (kit_ty (r := true) (by decide +kernel)) ?_
  walk_at "st"
  have lT : (TL.tl t).length = t.length := (TL.len_tl t).symm
  refine ⟨t, 0, 12, rfl, rfl, rfl, Nat.le_refl _, by decide, by omega, fun hno H1 g1 => ?_, fun m p hso H1 q v g1 hq hv => ?_⟩
  · walk_at "st"
    refine ⟨rfl, ?_⟩
    walk_at "st"
    refine w_yes rfl ?_
    rcases h with ⟨m, hm, _⟩ | ⟨_, q⟩
    · rw [hno] at hm; cases hm
    · exact q H1 g1
  · walk_at "st"
    refine ⟨rfl, ?_⟩
    walk_at "st"
    refine w_no rfl ?_
    walk_at "st"
    refine w_ixT (SqT.of hq) (atI_nat (j := 1) rfl) ?_
    walk_at "st"
    have szm := gread_sz (TL.tl t) 12 0 m p hso
    have fwm := gread_fwd (TL.tl t) 12 0 m p hso
    have dpm := gread_dep (TL.tl t) 12 0 m p hso
    refine ⟨.str t, t.length, rfl, ⟨by rw [sizeLine_eq]; omega, rfl⟩, ?_⟩
    walk_at "st"
    rcases h with ⟨m', hm, hw, q⟩ | ⟨hm, q⟩
    · rw [hso] at hm
      cases hm
      refine w_no (by simp) ?_
      walk_at "st"
      refine w_ixT (SqT.of hq) (atI_nat (j := 0) rfl) ?_
      walk_at "st"
      exact ⟨k, Bo, m, rfl, b.fr0 g1, hv, by omega, by decide, hw, by omega, fun H2 b2 g2 => q H2 b2 (g1.of0.trans g2)⟩
    · have ne : p ≠ t.length := fun z => hm m (by rw [hso, z])
      refine w_yes (by simp; omega) ?_
      exact q H1 g1
end

/-! ### a game walked down -/

section
variable {P : Program} {w : World} {K : PySem.W.Frag} {mg : Str → Option Value} {base : Heap} {CB CE CG CT : Addr}
def cWalked (P : Program) (w : World) (CB : Addr) (n : Nat) : P2' := fun bk g H Q _ => ∃ k B, ∃ m : Nat, bk = .ref k.p ∧ g = .int (m : Int) ∧ BookAt P w CB H k B ∧ B.length ≤ 63 ∧ (∀ j, j < B.length → (tx B j).length ≤ 10000) ∧ m < B.length ∧ dp B m < n ∧ ∀ H', Fr [] H H' → Q (.str (tx B m)) H'
def cNumber : P1 := fun x H Q _ => ∃ i : Int, x = .int i ∧ Q (.bl true) H
abbrev s__law_number : Stmt := topS 25
theorem sc__law_number : FnScope ["found"] ["found"] (defScope s__law_number) := ⟨rfl, rfl, rfl, by decide +kernel, rfl, by decide +kernel, by decide +kernel⟩
theorem ok__law_number (B : Blt mg) (S : Src K mg "_law_number" s__law_number ["found"]) : DefOk P w K mg base CX0 1 "_law_number" ["found"] (sp1 cNumber) := by
  refine S.ok sc__law_number len1 fun f cdv A outer s H vs Q E hr h => ?_
  obtain ⟨x, rfl, i, rfl, q⟩ := h
  have hu := hu_of hr
  have hu64 := hr.units
  refine ⟨_, (pss_one (ps_ret (pe_and (pe_callB (cIsi K) (by rfl) B.k_isinstance bb_isinstance (pa_cons (pv 0) (pa_cons (pe_bltn (v := .ty "int") (by rfl) B.k_int bb_int rfl) pa_nil))) (pe_one (pe_not (pe_callB (cIsi K) (by rfl) B.k_isinstance bb_isinstance (pa_cons (pv 0) (pa_cons (pe_bltn (v := .ty "bool") (by rfl) B.k_bool bb_bool rfl) pa_nil)))))))), ?_⟩
  walk_at "st"
  refine w_isi tyI (.ty _) kit_ii ?_
  walk_at "st"
  refine w_isi tyI (.ty _) kit_ib ?_
  walk_at "st"
  exact q
abbrev s__law_walked : Stmt := topS 24
theorem sc__law_walked : FnScope ["book", "g", "left", "move"] ["book", "g"] (defScope s__law_walked) := ⟨rfl, rfl, rfl, by decide +kernel, rfl, by decide +kernel, by decide +kernel⟩
theorem rc__law_walked0 (B : Blt mg) (S : Src K mg "_law_walked" s__law_walked ["book", "g"]) : DefOk P w K mg base CX0 2 "_law_walked" ["book", "g"] (sp2 (cWalked P w CB 0)) := by
  refine S.ok sc__law_walked len2 fun f cdv A outer s H vs Q E hr h => ?_
  obtain ⟨_, _, _, _, _, _, _, _, _, _, _, _, h, _⟩ := h
  exact absurd h (Nat.not_lt_zero _)
theorem rc__law_walked {n : Nat} (B : Blt mg) (d_Book_lefts : MtOk P w K mg base (L2.CX P w) 2 CB "lefts" ["self", "g"] (sp2 (cSide P w K CB CE (·.1)))) (d_Book_rights : MtOk P w K mg base (L2.CX P w) 2 CB "rights" ["self", "g"] (sp2 (cSide P w K CB CE (·.2)))) (d__law_listed : DefOk P w K mg base CX0 1 "_law_listed" ["texts"] (sp1 cListed))
    (d__law_walked : DefOk P w K mg base CX0 (n + 2) "_law_walked" ["book", "g"] (sp2 (cWalked P w CB n))) (S : Src K mg "_law_walked" s__law_walked ["book", "g"]) : DefOk P w K mg base CX0 (n + 3) "_law_walked" ["book", "g"] (sp2 (cWalked P w CB (n + 1))) := by
  refine S.ok sc__law_walked len2 fun f cdv A outer s H vs Q E hr h => ?_
  obtain ⟨bk, g, rfl, k, Bo, m, rfl, rfl, b, hz, tlen, hm, hd, q⟩ := h
  have hu := hu_of hr
  have hu64 := hr.units
  have hr0 := List.getElem?_eq_getElem hm
  generalize Bo[m] = r at hr0
  have low0 := b.ok.low m r hr0
  have sr := b.ok.srt r (List.mem_of_getElem? hr0)
  have lt : ∀ j ∈ r.1 ++ r.2, j < Bo.length := fun j hj => by have := low0 j hj; omega
  have le1 : r.1.length ≤ m := nodup_len _ _ (sr.1.imp fun h => Nat.ne_of_lt h) fun j hj => low0 j (List.mem_append_left _ hj)
  have le2 : r.2.length ≤ m := nodup_len _ _ (sr.2.imp fun h => Nat.ne_of_lt h) fun j hj => low0 j (List.mem_append_right _ hj)
  have ddp : ∀ j ∈ r.1 ++ r.2, dp Bo j < n := fun j hj => by have := dp_lt b.ok hr0 hj; omega
  have etx := tx_at b.ok hr0
  refine ⟨_, (pss_cons (ps_if (PW.pt (pw_and (pt_cmpR (oEqD K hu64) (pe_mt (pv 0) d_Book_lefts (hr.mono (by omega)) passL (pa_cons (pv 1) pa_nil)) (pe_lst pa_nil) (nomark _)) (pw_and1 (pt_cmpR (oEqD K hu64) (pe_mt (pv 0) d_Book_rights (hr.mono (by omega)) passL (pa_cons (pv 1) pa_nil)) (pe_lst pa_nil) (nomark _)))))
      (pss_one (ps_ret pe_str))
      pss_nil)
    (pss_cons (ps_set (i := 2) sc__law_walked.nd rfl (Or.inl rfl) (pe_fn d__law_listed (hr.mono (by omega)) pass0 (pa_cons (pe_lc (own := [("move", 3)]) (g := gName 3) (tt := tYes) rfl sc__law_walked.nd (iL K (pe_mt (pv 0) d_Book_lefts (hr.mono (by omega)) passL (pa_cons (pv 1) pa_nil))) (blkOk_by (N := ["book", "g", "left", "move"]) (sc := defScope s__law_walked) (by decide +kernel)) (fun _ _ _ _ _ => by exact (pg_name (i := 3) sc__law_walked.nd rfl (Or.inl rfl))) (fun _ _ _ _ _ => by exact pts_nil) (fun _ _ _ _ _ => by exact (pe_fn d__law_walked (hr.mono (by omega)) pass0 (pa_cons (pv 0) (pa_cons (pv 3) pa_nil))))) pa_nil)))
    (pss_one (ps_ret (pe_op op_add_str (pe_op op_add_str (pe_op op_add_str (pe_op op_add_str pe_str (pv 2)) pe_str) (pe_fn d__law_listed (hr.mono (by omega)) pass0 (pa_cons (pe_lc (own := [("move", 3)]) (g := gName 3) (tt := tYes) rfl sc__law_walked.nd (iL K (pe_mt (pv 0) d_Book_rights (hr.mono (by omega)) passL (pa_cons (pv 1) pa_nil))) (blkOk_by (N := ["book", "g", "left", "move"]) (sc := defScope s__law_walked) (by decide +kernel)) (fun _ _ _ _ _ => by exact (pg_name (i := 3) sc__law_walked.nd rfl (Or.inl rfl))) (fun _ _ _ _ _ => by exact pts_nil) (fun _ _ _ _ _ => by exact (pe_fn d__law_walked (hr.mono (by omega)) pass0 (pa_cons (pv 0) (pa_cons (pv 3) pa_nil))))) pa_nil))) pe_str))))), ?_⟩
  walk_at "st"
  refine w_bmt b.obj n_lef.1 n_lef.2.1 n_lef.2.2 ?_
  walk_at "st"
  refine ⟨k, Bo, rfl, b, by omega, .inl ⟨m, r, rfl, hr0, ?_⟩⟩
  intro l1 n_l1
  have f_l1 : Fr [] H (upd H l1 (.lst (nV r.1))) := Fr.new n_l1
  have h_l1 : (upd H l1 (.lst (nV r.1))) l1 = some (.lst (nV r.1)) := upd_same
  generalize upd H l1 (.lst (nV r.1)) = H1 at *
  walk_at "st"
  intro e1 n_e1
  have f_e1 : Fr [] H1 (upd H1 e1 (.lst [])) := Fr.new n_e1
  have h_e1 : (upd H1 e1 (.lst [])) e1 = some (.lst []) := upd_same
  generalize upd H1 e1 (.lst []) = H2 at *
  refine w_eqNil (SqL.of (f_e1.kp _ _ h_l1 (by simp))) (SqL.of h_e1) ?_
  walk_at "st"
  have o2 : ("{" : Str).length = 1 := by decide +kernel
  have o3 : ("|" : Str).length = 1 := by decide +kernel
  have o4 : ("}" : Str).length = 1 := by decide +kernel
  have f2 := f_l1.trans f_e1
  by_cases c1 : r.1 = []
  · rw [decide_eq_true c1]
    refine w_yes rfl ?_
    walk_at "st"
    have b2 := b.fr0 f2
    refine w_bmt b2.obj n_rig.1 n_rig.2.1 n_rig.2.2 ?_
    walk_at "st"
    refine ⟨k, Bo, rfl, b2, by omega, .inl ⟨m, r, rfl, hr0, ?_⟩⟩
    intro l3 n_l3
    have f_l3 : Fr [] H2 (upd H2 l3 (.lst (nV r.2))) := Fr.new n_l3
    have h_l3 : (upd H2 l3 (.lst (nV r.2))) l3 = some (.lst (nV r.2)) := upd_same
    generalize upd H2 l3 (.lst (nV r.2)) = H3 at *
    walk_at "st"
    intro e2 n_e2
    have f_e2 : Fr [] H3 (upd H3 e2 (.lst [])) := Fr.new n_e2
    have h_e2 : (upd H3 e2 (.lst [])) e2 = some (.lst []) := upd_same
    generalize upd H3 e2 (.lst []) = H4 at *
    have f4 := (f2.trans f_l3).trans f_e2
    refine w_eqNil (SqL.of (f_e2.kp _ _ h_l3 (by simp))) (SqL.of h_e2) ?_
    walk_at "st"
    by_cases c2 : r.2 = []
    · rw [decide_eq_true c2]
      refine w_yes rfl ?_
      walk_at "st"
      have e0 : ("0" : Str) = tx Bo m := by rw [etx, c1, c2]; exact txF_nil.symm
      rw [e0]
      exact q H4 f4
    have nn : ¬ (r.1 = [] ∧ r.2 = []) := fun z => c2 z.2
    rw [decide_eq_false c2]
    refine w_no rfl ?_
    walk_at "st"
    have bE := b.fr0 f4
    refine w_bmt bE.obj n_lef.1 n_lef.2.1 n_lef.2.2 ?_
    walk_at "st"
    refine ⟨k, Bo, rfl, bE, by omega, .inl ⟨m, r, rfl, hr0, ?_⟩⟩
    intro L5 n_L5
    have f_L5 : Fr [] H4 (upd H4 L5 (.lst (nV r.1))) := Fr.new n_L5
    have h_L5 : (upd H4 L5 (.lst (nV r.1))) L5 = some (.lst (nV r.1)) := upd_same
    generalize upd H4 L5 (.lst (nV r.1)) = J5 at *
    walk_at "st"
    have bJ5 := bE.fr0 f_L5
    refine c_list (SqL.of h_L5) (fun D j G => J5 D = none ∧ Fr [] J5 G ∧ G D = some (.lst (sV ((r.1.take j).map (tx Bo))))) (fun D G n g e => ⟨n, g, e⟩) (fun D j G _ p => SqL.of (p.2.1.kp _ _ h_L5 (by simp))) ?_ ?_
    · rintro D j x G hx ⟨nD, g, e⟩
      obtain ⟨i, hi, rfl⟩ := nV_get hx
      have him := List.mem_append_left (r.2) (List.mem_of_getElem? hi)
      walk_at "st"
      refine ⟨k, Bo, i, rfl, rfl, bJ5.fr0 g, hz, tlen, lt i him, ddp i him, fun G' g' => ?_⟩
      refine ⟨_, g'.kp _ _ e (by simp), ?_, nD, (g.trans g').put nD, ?_⟩
      · rw [sV_len, List.length_map, List.length_take, sizeLine_eq]; omega
      · rw [upd_same, map_take_succ _ hi, ← sV_app]
    rintro D5 A5 nD5 ⟨_, gD5, hD5⟩
    rw [List.take_of_length_le (by rw [nV_len]; exact Nat.le_refl _)] at hD5
    have w5 : wS (r.1.map (tx Bo)) ≤ 620062 := by
      have h1 := wS_le (c := 10000) (l := r.1.map (tx Bo)) fun x hx => by
        obtain ⟨i, hi, rfl⟩ := List.mem_map.mp hx
        exact tlen i (lt i (List.mem_append_left _ hi))
      rw [List.length_map] at h1
      have h2 := Nat.mul_le_mul_right (10000 + 1) (show r.1.length ≤ 62 by omega)
      omega
    walk_at "st"
    refine ⟨D5, r.1.map (tx Bo), rfl, hD5, by rw [List.length_map]; omega, by omega, fun B5 gB5 => ?_⟩
    walk_at "st"
    have g15 := f4.trans ((f_L5.trans gD5).trans gB5)
    have b5 := b.fr0 g15
    have j1 := joinS_len (srtS (r.1.map (tx Bo)))
    have j2 := joinS_len (srtS (r.2.map (tx Bo)))
    have j3 := wS_srt (r.1.map (tx Bo))
    have j4 := wS_srt (r.2.map (tx Bo))
    refine ⟨_, _, rfl, rfl, by rw [o2, sizeLine_eq]; omega, ?_⟩
    walk_at "st"
    refine ⟨_, _, rfl, rfl, by rw [len_app, o2, o3, sizeLine_eq]; omega, ?_⟩
    walk_at "st"
    refine w_bmt b5.obj n_rig.1 n_rig.2.1 n_rig.2.2 ?_
    walk_at "st"
    refine ⟨k, Bo, rfl, b5, by omega, .inl ⟨m, r, rfl, hr0, ?_⟩⟩
    intro L6 n_L6
    have f_L6 : Fr [] B5 (upd B5 L6 (.lst (nV r.2))) := Fr.new n_L6
    have h_L6 : (upd B5 L6 (.lst (nV r.2))) L6 = some (.lst (nV r.2)) := upd_same
    generalize upd B5 L6 (.lst (nV r.2)) = J6 at *
    walk_at "st"
    have bJ6 := b5.fr0 f_L6
    refine c_list (SqL.of h_L6) (fun D j G => J6 D = none ∧ Fr [] J6 G ∧ G D = some (.lst (sV ((r.2.take j).map (tx Bo))))) (fun D G n g e => ⟨n, g, e⟩) (fun D j G _ p => SqL.of (p.2.1.kp _ _ h_L6 (by simp))) ?_ ?_
    · rintro D j x G hx ⟨nD, g, e⟩
      obtain ⟨i, hi, rfl⟩ := nV_get hx
      have him := List.mem_append_right (r.1) (List.mem_of_getElem? hi)
      walk_at "st"
      refine ⟨k, Bo, i, rfl, rfl, bJ6.fr0 g, hz, tlen, lt i him, ddp i him, fun G' g' => ?_⟩
      refine ⟨_, g'.kp _ _ e (by simp), ?_, nD, (g.trans g').put nD, ?_⟩
      · rw [sV_len, List.length_map, List.length_take, sizeLine_eq]; omega
      · rw [upd_same, map_take_succ _ hi, ← sV_app]
    rintro D6 A6 nD6 ⟨_, gD6, hD6⟩
    rw [List.take_of_length_le (by rw [nV_len]; exact Nat.le_refl _)] at hD6
    have w6 : wS (r.2.map (tx Bo)) ≤ 620062 := by
      have h1 := wS_le (c := 10000) (l := r.2.map (tx Bo)) fun x hx => by
        obtain ⟨i, hi, rfl⟩ := List.mem_map.mp hx
        exact tlen i (lt i (List.mem_append_right _ hi))
      rw [List.length_map] at h1
      have h2 := Nat.mul_le_mul_right (10000 + 1) (show r.2.length ≤ 62 by omega)
      omega
    walk_at "st"
    refine ⟨D6, r.2.map (tx Bo), rfl, hD6, by rw [List.length_map]; omega, by omega, fun B6 gB6 => ?_⟩
    walk_at "st"
    refine ⟨_, _, rfl, rfl, by rw [len_app, len_app, o2, o3, sizeLine_eq]; omega, ?_⟩
    walk_at "st"
    refine ⟨_, _, rfl, rfl, by rw [len_app, len_app, len_app, o2, o3, o4, sizeLine_eq]; omega, ?_⟩
    have e0 : ("{" : Str) ++ Txt.join "," (srtS (r.1.map (tx Bo))) ++ "|" ++ Txt.join "," (srtS (r.2.map (tx Bo))) ++ "}" = tx Bo m := by
      rw [etx]
      unfold txF
      rw [if_neg]
      rintro ⟨a, b⟩
      exact nn ⟨List.map_eq_nil_iff.mp a, List.map_eq_nil_iff.mp b⟩
    rw [e0]
    exact q B6 (g15.trans ((f_L6.trans gD6).trans gB6))
  · have nn : ¬ (r.1 = [] ∧ r.2 = []) := fun z => c1 z.1
    rw [decide_eq_false c1]
    refine w_no rfl ?_
    walk_at "st"
    have bE := b.fr0 f2
    refine w_bmt bE.obj n_lef.1 n_lef.2.1 n_lef.2.2 ?_
    walk_at "st"
    refine ⟨k, Bo, rfl, bE, by omega, .inl ⟨m, r, rfl, hr0, ?_⟩⟩
    intro L5 n_L5
    have f_L5 : Fr [] H2 (upd H2 L5 (.lst (nV r.1))) := Fr.new n_L5
    have h_L5 : (upd H2 L5 (.lst (nV r.1))) L5 = some (.lst (nV r.1)) := upd_same
    generalize upd H2 L5 (.lst (nV r.1)) = J5 at *
    walk_at "st"
    have bJ5 := bE.fr0 f_L5
    refine c_list (SqL.of h_L5) (fun D j G => J5 D = none ∧ Fr [] J5 G ∧ G D = some (.lst (sV ((r.1.take j).map (tx Bo))))) (fun D G n g e => ⟨n, g, e⟩) (fun D j G _ p => SqL.of (p.2.1.kp _ _ h_L5 (by simp))) ?_ ?_
    · rintro D j x G hx ⟨nD, g, e⟩
      obtain ⟨i, hi, rfl⟩ := nV_get hx
      have him := List.mem_append_left (r.2) (List.mem_of_getElem? hi)
      walk_at "st"
      refine ⟨k, Bo, i, rfl, rfl, bJ5.fr0 g, hz, tlen, lt i him, ddp i him, fun G' g' => ?_⟩
      refine ⟨_, g'.kp _ _ e (by simp), ?_, nD, (g.trans g').put nD, ?_⟩
      · rw [sV_len, List.length_map, List.length_take, sizeLine_eq]; omega
      · rw [upd_same, map_take_succ _ hi, ← sV_app]
    rintro D5 A5 nD5 ⟨_, gD5, hD5⟩
    rw [List.take_of_length_le (by rw [nV_len]; exact Nat.le_refl _)] at hD5
    have w5 : wS (r.1.map (tx Bo)) ≤ 620062 := by
      have h1 := wS_le (c := 10000) (l := r.1.map (tx Bo)) fun x hx => by
        obtain ⟨i, hi, rfl⟩ := List.mem_map.mp hx
        exact tlen i (lt i (List.mem_append_left _ hi))
      rw [List.length_map] at h1
      have h2 := Nat.mul_le_mul_right (10000 + 1) (show r.1.length ≤ 62 by omega)
      omega
    walk_at "st"
    refine ⟨D5, r.1.map (tx Bo), rfl, hD5, by rw [List.length_map]; omega, by omega, fun B5 gB5 => ?_⟩
    walk_at "st"
    have g15 := f2.trans ((f_L5.trans gD5).trans gB5)
    have b5 := b.fr0 g15
    have j1 := joinS_len (srtS (r.1.map (tx Bo)))
    have j2 := joinS_len (srtS (r.2.map (tx Bo)))
    have j3 := wS_srt (r.1.map (tx Bo))
    have j4 := wS_srt (r.2.map (tx Bo))
    refine ⟨_, _, rfl, rfl, by rw [o2, sizeLine_eq]; omega, ?_⟩
    walk_at "st"
    refine ⟨_, _, rfl, rfl, by rw [len_app, o2, o3, sizeLine_eq]; omega, ?_⟩
    walk_at "st"
    refine w_bmt b5.obj n_rig.1 n_rig.2.1 n_rig.2.2 ?_
    walk_at "st"
    refine ⟨k, Bo, rfl, b5, by omega, .inl ⟨m, r, rfl, hr0, ?_⟩⟩
    intro L6 n_L6
    have f_L6 : Fr [] B5 (upd B5 L6 (.lst (nV r.2))) := Fr.new n_L6
    have h_L6 : (upd B5 L6 (.lst (nV r.2))) L6 = some (.lst (nV r.2)) := upd_same
    generalize upd B5 L6 (.lst (nV r.2)) = J6 at *
    walk_at "st"
    have bJ6 := b5.fr0 f_L6
    refine c_list (SqL.of h_L6) (fun D j G => J6 D = none ∧ Fr [] J6 G ∧ G D = some (.lst (sV ((r.2.take j).map (tx Bo))))) (fun D G n g e => ⟨n, g, e⟩) (fun D j G _ p => SqL.of (p.2.1.kp _ _ h_L6 (by simp))) ?_ ?_
    · rintro D j x G hx ⟨nD, g, e⟩
      obtain ⟨i, hi, rfl⟩ := nV_get hx
      have him := List.mem_append_right (r.1) (List.mem_of_getElem? hi)
      walk_at "st"
      refine ⟨k, Bo, i, rfl, rfl, bJ6.fr0 g, hz, tlen, lt i him, ddp i him, fun G' g' => ?_⟩
      refine ⟨_, g'.kp _ _ e (by simp), ?_, nD, (g.trans g').put nD, ?_⟩
      · rw [sV_len, List.length_map, List.length_take, sizeLine_eq]; omega
      · rw [upd_same, map_take_succ _ hi, ← sV_app]
    rintro D6 A6 nD6 ⟨_, gD6, hD6⟩
    rw [List.take_of_length_le (by rw [nV_len]; exact Nat.le_refl _)] at hD6
    have w6 : wS (r.2.map (tx Bo)) ≤ 620062 := by
      have h1 := wS_le (c := 10000) (l := r.2.map (tx Bo)) fun x hx => by
        obtain ⟨i, hi, rfl⟩ := List.mem_map.mp hx
        exact tlen i (lt i (List.mem_append_right _ hi))
      rw [List.length_map] at h1
      have h2 := Nat.mul_le_mul_right (10000 + 1) (show r.2.length ≤ 62 by omega)
      omega
    walk_at "st"
    refine ⟨D6, r.2.map (tx Bo), rfl, hD6, by rw [List.length_map]; omega, by omega, fun B6 gB6 => ?_⟩
    walk_at "st"
    refine ⟨_, _, rfl, rfl, by rw [len_app, len_app, o2, o3, sizeLine_eq]; omega, ?_⟩
    walk_at "st"
    refine ⟨_, _, rfl, rfl, by rw [len_app, len_app, len_app, o2, o3, o4, sizeLine_eq]; omega, ?_⟩
    have e0 : ("{" : Str) ++ Txt.join "," (srtS (r.1.map (tx Bo))) ++ "|" ++ Txt.join "," (srtS (r.2.map (tx Bo))) ++ "}" = tx Bo m := by
      rw [etx]
      unfold txF
      rw [if_neg]
      rintro ⟨a, b⟩
      exact nn ⟨List.map_eq_nil_iff.mp a, List.map_eq_nil_iff.mp b⟩
    rw [e0]
    exact q B6 (g15.trans ((f_L6.trans gD6).trans gB6))
end

/-! ### the law -/

section
variable {P : Program} {w : World} {K : PySem.W.Frag} {mg : Str → Option Value} {base : Heap} {CB CE CG CT : Addr}
theorem ok__law_walked (B : Blt mg) (d_Book_lefts : MtOk P w K mg base (L2.CX P w) 2 CB "lefts" ["self", "g"] (sp2 (cSide P w K CB CE (·.1)))) (d_Book_rights : MtOk P w K mg base (L2.CX P w) 2 CB "rights" ["self", "g"] (sp2 (cSide P w K CB CE (·.2)))) (d__law_listed : DefOk P w K mg base CX0 1 "_law_listed" ["texts"] (sp1 cListed)) (S : Src K mg "_law_walked" s__law_walked ["book", "g"]) : DefOk P w K mg base CX0 102 "_law_walked" ["book", "g"] (sp2 (cWalked P w CB 100)) := by
  have h : ∀ n, DefOk P w K mg base CX0 (n + 2) "_law_walked" ["book", "g"] (sp2 (cWalked P w CB n)) := by
    intro n
    induction n with
    | zero => exact rc__law_walked0 B S
    | succ n ih => exact rc__law_walked B d_Book_lefts d_Book_rights d__law_listed ih S
  exact h 100
def cLaw (K : PySem.W.Frag) : P1 := fun script H Q _ => ∃ p, ∃ xs : List Int, script = .ref p ∧ SqL K H p (xs.map V.int) ∧ ∀ H', Q (.bl true) H'
theorem n_man : (("many" : Str) == ("moves" : Str)) = false ∧ (("many" : Str) == ("numbers" : Str)) = false ∧ (("many" : Str) == ("depths" : Str)) = false := by decide +kernel
/-- a new book -/
theorem w_mkBook {H1 : Hp} {R : Addr → Hp → Prop} {E : XK} (h : ∀ k H', BookAt P w CB H' k B0 → Fr [] H1 H' → (∀ a ∈ k.S, H1 a = none) → R k.p H') : ∀ x dx, H1 x = none → H1 dx = none → dx ≠ x →
    sp1 (cBookInit P w CB) (.ref x :: ([] ++ [])) (upd (upd H1 dx (.own x)) x (.ins CB dx [])) (fun v H2 => v = .non ∧ R x H2) E := by
  intro x dx nx nd ne
  have a1 : ∀ a o, H1 a = some o → (upd (upd H1 dx (.own x)) x (.ins CB dx [])) a = some o := fun a o e => by rw [upd_ne (ne_of_none e nx), upd_ne (ne_of_none e nd)]; exact e
  have a2 : ∀ a, (upd (upd H1 dx (.own x)) x (.ins CB dx [])) a = none → H1 a = none := fun a e => by
    by_cases c : a = x
    · rw [c, upd_same] at e; cases e
    · rw [upd_ne c] at e
      by_cases d : a = dx
      · rw [d, upd_same] at e; cases e
      · rw [upd_ne d] at e; exact e
  refine ⟨.ref x, rfl, x, dx, rfl, upd_same, fun k H' hk b fs kp fr => ⟨rfl, ?_⟩⟩
  rw [← hk]
  exact h k H' b ⟨fun a o e _ => kp a o (a1 a o e) (ne_of_none e nx), fun a o e _ => kp a o (a1 a o e) (ne_of_none e nx), fun a e => a2 a (fr a e)⟩ fun a ha => a2 a (fs a ha)
abbrev s_law : Stmt := topS 26
theorem sc_law : FnScope ["script", "table", "store", "book", "numbers", "other", "k", "texts", "some", "at", "found", "g"] ["script"] (defScope s_law) := ⟨rfl, rfl, rfl, by decide +kernel, rfl, by decide +kernel, by decide +kernel⟩
theorem ok_law (B : Blt mg) (T : BkT K CB) (d__law_games : DefOk P w K mg base CX0 2 "_law_games" ["script", "begin", "most", "deepest"] (sp4 (cGames K))) (d__law_cell : DefOk P w K mg base CX0 1 "_law_cell" ["script", "k"] (sp2 (cCell K))) (d__law_store : DefOk P w K mg base CX0 1 "_law_store" ["cell"] (sp1 cStore)) (d__law_take : DefOk P w K mg base CX0 1 "_law_take" ["store", "many"] (sp2 cTake))
    (d__law_more : DefOk P w K mg base CX0 2 "_law_more" ["store", "table", "rows"] (sp3 cMore)) (d_Book_init : MkOk P w K mg base CX0 1 CB "Book" ["self"] (sp1 (cBookInit P w CB))) (d__law_put : DefOk P w K mg base CX0 3 "_law_put" ["book", "table"] (sp2 (cPut P w CB))) (d__law_texts : DefOk P w K mg base CX0 2 "_law_texts" ["table"] (sp1 cTexts))
    (d_Book_many : MtOk P w K mg base CX0 1 CB "many" ["self"] (sp1 (cMany P w CB))) (d_Book_game : MtOk P w K mg base (L2.CX P w) 2 CB "game" ["self", "lefts", "rights"] (sp3 (cGame P w K CB))) (d_show : DefOk P w K mg base (L2.CX P w) 4 "show" ["book", "g"] (sp2 (cShow P w K CB CE))) (d_read : DefOk P w K mg base (L2.CX P w) 27 "read" ["book", "text"] (sp2 (cRead P w K CB CT)))
    (d__law_walked : DefOk P w K mg base CX0 102 "_law_walked" ["book", "g"] (sp2 (cWalked P w CB 100))) (d__law_number : DefOk P w K mg base CX0 1 "_law_number" ["found"] (sp1 cNumber))
    {f : Addr} : Body0 P w K mg base 102 ["script", "table", "store", "book", "numbers", "other", "k", "texts", "some", "at", "found", "g"] "law" s_law f (sp1 (cLaw K)) := by
  intro cdv A outer s H vs Q E hr h
  obtain ⟨script, rfl, p, xs, rfl, hs, q⟩ := h
  have hu := hu_of hr
  have hu64 := hr.units
  refine ⟨_, (pss_cons (ps_set (i := 1) sc_law.nd rfl (Or.inl rfl) (pe_fn d__law_games (hr.mono (by omega)) pass0 (pa_cons (pv 0) (pa_cons pe_int (pa_cons pe_int (pa_cons pe_int pa_nil))))))
    (pss_cons (ps_set (i := 2) sc_law.nd rfl (Or.inl rfl) (pe_fn d__law_store (hr.mono (by omega)) pass0 (pa_cons (pe_fn d__law_cell (hr.mono (by omega)) pass0 (pa_cons (pv 0) (pa_cons pe_int pa_nil))) pa_nil)))
    (pss_cons (ps_expr (pe_fn d__law_more (hr.mono (by omega)) pass0 (pa_cons (pv 2) (pa_cons (pv 1) (pa_cons (pe_fn d__law_take (hr.mono (by omega)) pass0 (pa_cons (pv 2) (pa_cons pe_int pa_nil))) pa_nil)))))
    (pss_cons (ps_set (i := 3) sc_law.nd rfl (Or.inl rfl) (pe_mk0 d_Book_init (hr.mono (by omega)) pass0))
    (pss_cons (ps_set (i := 4) sc_law.nd rfl (Or.inl rfl) (pe_fn d__law_put (hr.mono (by omega)) pass0 (pa_cons (pv 3) (pa_cons (pv 1) pa_nil))))
    (pss_cons (ps_set (i := 5) sc_law.nd rfl (Or.inl rfl) (pe_mk0 d_Book_init (hr.mono (by omega)) pass0))
    (pss_cons (ps_for PassesOwn.never rfl (pi_range1 (by rfl) B.k_range (pa_cons (pe_fn d__law_take (hr.mono (by omega)) pass0 (pa_cons (pv 2) (pa_cons pe_int pa_nil))) pa_nil)) (pg_name (i := 6) sc_law.nd rfl (Or.inl rfl))
      (pss_one (ps_expr (pe_mt (pv 5) d_Book_game (hr.mono (by omega)) passL (pa_cons (pe_lst (pa_cons (pe_fn d__law_take (hr.mono (by omega)) pass0 (pa_cons (pv 2) (pa_cons (pe_mt0 (pv 5) d_Book_many (hr.mono (by omega)) pass0) pa_nil))) pa_nil)) (pa_cons (pe_lst (pa_cons (pe_fn d__law_take (hr.mono (by omega)) pass0 (pa_cons (pv 2) (pa_cons (pe_mt0 (pv 5) d_Book_many (hr.mono (by omega)) pass0) pa_nil))) pa_nil)) pa_nil))))))
    (pss_cons (ps_set (i := 7) sc_law.nd rfl (Or.inl rfl) (pe_fn d__law_texts (hr.mono (by omega)) pass0 (pa_cons (pv 1) pa_nil)))
    (pss_cons (ps_set (i := 8) sc_law.nd rfl (Or.inl rfl) (pe_listRg rfl (by rfl) B.k_list (prg_1 (by rfl) B.k_range (pe_callB (cLen K) (by rfl) B.k_len bb_len (pa_cons (pv 1) pa_nil)))))
    (pss_cons (ps_if (pt_cmpR op_eq (pe_fn d__law_take (hr.mono (by omega)) pass0 (pa_cons (pv 2) (pa_cons pe_int pa_nil))) pe_int (nomark _))
      (pss_one (ps_set (i := 8) sc_law.nd rfl (Or.inl rfl) (kRevL K (pv 8))))
      pss_nil)
    (pss_cons (ps_for PassesOwn.never rfl (iL K (pv 8)) (pg_name (i := 9) sc_law.nd rfl (Or.inl rfl))
      (pss_cons (ps_set (i := 10) sc_law.nd rfl (Or.inl rfl) (pe_fn d_read (hr.mono (by omega)) passL (pa_cons (pv 3) (pa_cons (pe_ix (ixL K) (pv 7) (pv 9) (fun _ _ => rfl)) pa_nil))))
      (pss_cons (ps_if (PW.pt (pw_or (pt_not (pt_val (pe_fn d__law_number (hr.mono (by omega)) pass0 (pa_cons (pv 10) pa_nil)))) (pw_or1 (pt_cmpR op_ne (pv 10) (pe_ix (ixL K) (pv 4) (pv 9) (fun _ _ => rfl)) (nomark _)))))
        (pss_one (ps_ret pe_bl))
        pss_nil)
      (pss_cons (ps_set (i := 11) sc_law.nd rfl (Or.inl rfl) (pe_fn d_read (hr.mono (by omega)) passL (pa_cons (pv 5) (pa_cons (pe_ix (ixL K) (pv 7) (pv 9) (fun _ _ => rfl)) pa_nil))))
      (pss_cons (ps_if (PW.pt (pw_or (pt_not (pt_val (pe_fn d__law_number (hr.mono (by omega)) pass0 (pa_cons (pv 11) pa_nil)))) (pw_or1 (pt_cmpR op_ne (pe_fn d__law_walked (hr.mono (by omega)) pass0 (pa_cons (pv 5) (pa_cons (pv 11) pa_nil))) (pe_ix (ixL K) (pv 7) (pv 9) (fun _ _ => rfl)) (nomark _)))))
        (pss_one (ps_ret pe_bl))
        pss_nil)
      (pss_one (ps_if (PW.pt (pw_or (pt_cmpR op_ne (pe_fn d_read (hr.mono (by omega)) passL (pa_cons (pv 5) (pa_cons (pe_ix (ixL K) (pv 7) (pv 9) (fun _ _ => rfl)) pa_nil))) (pv 11) (nomark _)) (pw_or1 (pt_cmpR op_ne (pe_fn d_show (hr.mono (by omega)) passL (pa_cons (pv 5) (pa_cons (pv 11) pa_nil))) (pe_ix (ixL K) (pv 7) (pv 9) (fun _ _ => rfl)) (nomark _)))))
        (pss_one (ps_ret pe_bl))
        pss_nil)))))))
    (pss_one (ps_ret pe_bl))))))))))))), ?_⟩
  walk_at "st"
  refine ⟨p, xs, 0, 8, 3, rfl, rfl, rfl, rfl, hs, by decide, by decide, by decide, fun t tab H1 tb tl f1 nt ta => ?_⟩
  walk_at "st"
  refine ⟨p, xs, 8, rfl, rfl, f1.seqL (by simp) hs, by decide, fun z => ?_⟩
  walk_at "st"
  refine ⟨z, rfl, fun st H2 f2 nst hst => ?_⟩
  walk_at "st"
  refine ⟨st, 10, rfl, rfl, by decide, by decide, hst, fun R hR H3 f3 hst3 => ?_⟩
  walk_at "st"
  have nst_t : st ≠ t := by
    obtain ⟨ts, t1, _⟩ := ta.ex
    exact (ne_of_none t1 nst).symm
  have f23 : Fr [st] H1 H3 := f2.of0.trans f3
  have ta3 : TabAt H3 t tab (fun a => a ≠ t ∧ a ≠ st) := ta.fr f23 (by simpa using nst_t.symm) fun a o e n => ⟨by simpa using ne_of_none e nst, n, ne_of_none e nst⟩
  refine ⟨st, t, tab, R, rfl, rfl, rfl, hst3, ta3, nst_t, tb, by omega, by omega, fun tab' H4 mo f4 hst4 ta4 => ?_⟩
  walk_at "st"
  refine w_mkBook fun k H5 b5 f5 kS => ?_
  walk_at "st"
  have ml := mo.len
  have tS : t ∉ k.S := fun z => by
    obtain ⟨ts, t1, _⟩ := ta4.ex
    rw [kS t z] at t1; cases t1
  have stS : st ∉ k.S := fun z => by
    obtain ⟨_, _, _, e⟩ := hst4
    rw [kS st z] at e; cases e
  have ta5 : TabAt H5 t tab' (fun a => a ∉ k.S ∧ a ≠ st) := ta4.fr f5 (by simp) fun a o e n => ⟨by simp, (fun z => by rw [kS a z] at e; cases e), n.2⟩
  refine ⟨k, B0, t, tab', _, rfl, rfl, b5, ta5, mo.low, fun r hr => by have := mo.side r hr; omega, by show 1 + _ ≤ _; omega, tS, fun a h => h.1, fun np nums Bf H6 pu b6 f6 nnp hnp => ?_⟩
  walk_at "st"
  have ta6 := ta5.fr f6 tS (M := fun a => a ∉ k.S ∧ a ≠ st) fun a o e n => ⟨n.1, n⟩
  have hst6 := (hst4.fr f5 (by simp)).fr f6 stS
  refine w_mkBook fun k2 H7 c7 f7 kS2 => ?_
  walk_at "st"
  have b7 := b6.fr0 f7
  have hst7 := hst6.fr f7 (by simp)
  have ta7 := ta6.fr0 f7
  have hn7 := f7.kp _ _ hnp (by simp)
  have off2 : ∀ a o, H6 a = some o → a ∉ k2.S := fun a o e z => by rw [kS2 a z] at e; cases e
  have st2 : st ∉ k2.S := by
    obtain ⟨_, _, _, e⟩ := hst6
    exact off2 _ _ e
  have np2 : np ∉ k2.S := off2 _ _ hnp
  have k12 : ∀ a ∈ k.S, a ∉ k2.S := by
    intro a ha z
    obtain ⟨ms, m1, _⟩ := b6.mvs
    obtain ⟨es, e1, _⟩ := b6.nus
    have d1 := b6.des
    have n0 := kS2 a z
    unfold BkA.S at ha
    simp only [List.mem_cons, List.not_mem_nil, or_false] at ha
    rcases ha with e | e | e
    · rw [e, m1] at n0; cases n0
    · rw [e, e1.at'] at n0; cases n0
    · rw [e, d1] at n0; cases n0
  have k1st : ∀ a ∈ k.S, a ∉ [st] := fun a ha z => by simp at z; subst z; exact stS ha
  have k2st : ∀ a ∈ k2.S, a ∉ [st] := fun a ha z => by simp at z; subst z; exact st2 ha
  obtain ⟨ts, t1, t2, _⟩ := ta6.ex
  have t2S : t ∉ k2.S := off2 _ _ t1
  have npst : np ≠ st := by
    obtain ⟨_, _, _, e⟩ := hst4.fr f5 (by simp)
    exact (ne_of_none e nnp).symm
  have tst : t ≠ st := nst_t.symm
  -- some games of the other book
  refine ⟨st, 6, rfl, rfl, by decide, by decide, hst7, fun z6 hz6 H8 f8 hst8 => ?_⟩
  have S2 : ∀ a ∈ [st], a ∈ st :: k2.S := by simp
  have S3 : ∀ a ∈ k2.S, a ∈ st :: k2.S := fun a h => List.mem_cons_of_mem _ h
  refine f_rng1 (n := z6) rfl (by omega) (fun i σ G => ∃ x, σ = [some (.ref p), some (.ref t), some (.ref st), some (.ref k.p), some (.ref np), some (.ref k2.p), x, none, none, none, none, none] ∧ StAt G st ∧ Fr (st :: k2.S) H7 G ∧ ∃ Bo, BookAt P w CB G k2 Bo ∧ RndI i Bo)
    ⟨_, rfl, hst8, f8.mono S2, B0, c7.fr f8 k2st, .zero⟩ ?_ ?_
  · rintro i σ G hi ⟨x, rfl, hstG, g, Bo, cG, ri⟩
    have rl := ri.len
    have rp := ri.ok.pos
    walk_at "st"
    refine w_bmt cG.obj n_gam.1 n_gam.2.1 n_gam.2.2 ?_
    walk_at "st"
    refine w_bmt cG.obj n_man.1 n_man.2.1 n_man.2.2 ?_
    walk_at "st"
    refine ⟨k2, Bo, rfl, cG, ?_⟩
    walk_at "st"
    refine ⟨st, Bo.length, rfl, rfl, rp, by omega, hstG, fun a ha G1 g1 hst1 => ?_⟩
    walk_at "st"
    intro la n_la
    have f_la : Fr [] G1 (upd G1 la (.lst [.int (a : Int)])) := Fr.new n_la
    have h_la : (upd G1 la (.lst [.int (a : Int)])) la = some (.lst [.int (a : Int)]) := upd_same
    generalize upd G1 la (.lst [.int (a : Int)]) = G2 at *
    walk_at "st"
    have c2 := (cG.fr g1 k2st).fr0 f_la
    refine w_bmt c2.obj n_man.1 n_man.2.1 n_man.2.2 ?_
    walk_at "st"
    refine ⟨k2, Bo, rfl, c2, ?_⟩
    walk_at "st"
    have hst2 := hst1.fr f_la (by simp)
    refine ⟨st, Bo.length, rfl, rfl, rp, by omega, hst2, fun c hc G3 g3 hst3 => ?_⟩
    walk_at "st"
    have last : la ≠ st := by
      obtain ⟨_, _, _, e⟩ := hst1
      exact (ne_of_none e n_la).symm
    intro lc n_lc
    have f_lc : Fr [] G3 (upd G3 lc (.lst [.int (c : Int)])) := Fr.new n_lc
    have h_lc : (upd G3 lc (.lst [.int (c : Int)])) lc = some (.lst [.int (c : Int)]) := upd_same
    generalize upd G3 lc (.lst [.int (c : Int)]) = G4 at *
    walk_at "st"
    have c4 := (c2.fr g3 k2st).fr0 f_lc
    have hla4 := f_lc.kp _ _ (g3.kp _ _ h_la (by simpa using last)) (by simp)
    have hst4 := hst3.fr f_lc (by simp)
    refine ⟨k2, Bo, la, lc, [a], [c], rfl, rfl, rfl, c4, by omega, SqL.of hla4, SqL.of h_lc, by simp, by simp, fun m hm => ?_, fun G5 c5 g5 => ?_⟩
    · simp at hm; omega
    · walk_at "st"
      refine ⟨_, rfl, hst4.fr g5 st2, (((g.trans (g1.mono S2)).trans f_la.of0).trans ((g3.mono S2).trans f_lc.of0)).trans (g5.mono S3), _, c5, ri.step ha hc⟩
  rintro σ G ⟨x, rfl, hstG, g, Bo, cG, ri⟩
  walk_at "st"
  have lb : LB z6 ≤ 187 := by
    have h : ∀ z, z < 6 → LB z ≤ 187 := by decide
    exact h z6 hz6
  have oi0 : OthI tab' Bo.length Bo := ⟨ri.ok, Nat.le_refl _, by have := ri.len; omega, fun m hm => by have := ri.txt m hm; omega, fun m h0 hm => absurd hm (Nat.not_lt.mpr h0)⟩
  generalize hb0 : Bo.length = b0 at oi0
  have taG : TabAt G t tab' (fun a => a ∉ k.S ∧ a ≠ st ∧ a ∉ k2.S) := by
    refine (ta6.fr f7 (by simp) (M := fun a => a ∉ k.S ∧ a ≠ st ∧ a ∉ k2.S) fun a o e n => ⟨by simp, n.1, n.2, off2 a o e⟩).fr g ?_ fun a o e n => ⟨?_, n⟩
    · simp only [List.mem_cons, not_or]; exact ⟨tst, t2S⟩
    · simp only [List.mem_cons, not_or]; exact n.2
  have bG : BookAt P w CB G k Bf := b7.fr g fun a ha => by simp only [List.mem_cons, not_or]; exact ⟨by simpa using k1st a ha, k12 a ha⟩
  have npG : G np = some (.lst (nV nums)) := g.kp _ _ hn7 (by simp only [List.mem_cons, not_or]; exact ⟨npst, np2⟩)
  refine ⟨t, tab', _, rfl, taG, mo.low, fun r hr => by have := mo.side r hr; omega, by omega, fun j hj => by have := mo.text j hj; omega, fun tp H9 f9 ntp htp => ?_⟩
  walk_at "st"
  have taH := taG.fr0 f9
  obtain ⟨ts9, u1, u2, _⟩ := taH.ex
  refine w_listRg1 ?_
  walk_at "st"
  refine w_lenL (SqL.of u1) ?_
  refine ⟨_, rfl, RgOk.of_le (by omega) (by omega) (by omega) (by omega), ?_⟩
  rw [u2, rgV_nV]
  intro so n_so
  have f_so : Fr [] H9 (upd H9 so (.lst (nV (List.range tab'.length)))) := Fr.new n_so
  have h_so : (upd H9 so (.lst (nV (List.range tab'.length)))) so = some (.lst (nV (List.range tab'.length))) := upd_same
  generalize upd H9 so (.lst (nV (List.range tab'.length))) = H10 at *
  have hstG9 := hstG.fr f9 (by simp)
  have hst10 := hstG9.fr f_so (by simp)
  have c10 := (cG.fr0 f9).fr0 f_so
  have b10 := (bG.fr0 f9).fr0 f_so
  have np10 := f_so.kp _ _ (f9.kp _ _ npG (by simp)) (by simp)
  have tp10 := f_so.kp _ _ htp (by simp)
  have sost : so ≠ st := by
    obtain ⟨_, _, _, e⟩ := hstG9
    exact (ne_of_none e n_so).symm
  have tpst : tp ≠ st := by
    obtain ⟨_, _, _, e⟩ := hstG
    exact (ne_of_none e ntp).symm
  have so2 : so ∉ k2.S := (cG.fr0 f9).offN n_so
  have tp2 : tp ∉ k2.S := cG.offN ntp
  refine w_name ?_
  refine w_cut (fun σ' G' => ∃ so' os, σ' = [some (.ref p), some (.ref t), some (.ref st), some (.ref k.p), some (.ref np), some (.ref k2.p), x, some (.ref tp), some (.ref so'), none, none, none] ∧ G' so' = some (.lst (nV os)) ∧ (∀ m ∈ os, m < tab'.length) ∧ so' ∉ k2.S ∧ so' ∉ k.S ∧ BookAt P w CB G' k2 Bo ∧ BookAt P w CB G' k Bf ∧ G' np = some (.lst (nV nums)) ∧ G' tp = some (.lst (sV (evalB txF "0" tab')))) ?_ fun nx' hnx => ?_
  rotate_left
  · walk_at "st"
    refine ⟨st, 2, rfl, rfl, by decide, by decide, hst10, fun z2 hz2 H11 f11 hst11 => ?_⟩
    walk_at "st"
    have so11 := f11.kp _ _ h_so (by simpa using sost)
    have c11 := c10.fr f11 k2st
    have b11 := b10.fr f11 k1st
    have np11 := f11.kp _ _ np10 (by simpa using npst)
    have tp11 := f11.kp _ _ tp10 (by simpa using tpst)
    refine w_dec (fun c => ?_) fun c => ?_
    · walk_at "st"
      refine w_revL ?_
      walk_at "st"
      refine ⟨so, _, rfl, SqL.of so11, ?_⟩
      rw [nV_rev]
      intro s2 n_s2
      have f_s2 : Fr [] H11 (upd H11 s2 (.lst (nV (List.range tab'.length).reverse))) := Fr.new n_s2
      have h_s2 : (upd H11 s2 (.lst (nV (List.range tab'.length).reverse))) s2 = some (.lst (nV (List.range tab'.length).reverse)) := upd_same
      generalize upd H11 s2 (.lst (nV (List.range tab'.length).reverse)) = H12 at *
      walk_at "st"
      exact hnx _ _ ⟨s2, _, rfl, h_s2, fun m hm => List.mem_range.mp (List.mem_reverse.mp hm), c11.offN n_s2, b11.offN n_s2, c11.fr0 f_s2, b11.fr0 f_s2, f_s2.kp _ _ np11 (by simp), f_s2.kp _ _ tp11 (by simp)⟩
    · walk_at "st"
      exact hnx _ _ ⟨so, _, rfl, so11, fun m hm => List.mem_range.mp hm, so2, (bG.fr0 f9).offN n_so, c11, b11, np11, tp11⟩
  rintro σ G' ⟨so', os, rfl, hso, hos, sS, sS1, cG', bG', npG', tpG'⟩
  have np1 : np ∉ k.S := b5.offN nnp
  have tp1 : tp ∉ k.S := bG.offN ntp
  have k21 : ∀ a ∈ k2.S, a ∉ k.S := fun a h z => k12 a z h
  walk_at "st"
  refine f_list (SqL.of hso) (fun i σ G => ∃ y9 y10 y11, σ = [some (.ref p), some (.ref t), some (.ref st), some (.ref k.p), some (.ref np), some (.ref k2.p), x, some (.ref tp), some (.ref so'), y9, y10, y11] ∧ G so' = some (.lst (nV os)) ∧ BookAt P w CB G k Bf ∧ G np = some (.lst (nV nums)) ∧ G tp = some (.lst (sV (evalB txF "0" tab'))) ∧ ∃ Bo', BookAt P w CB G k2 Bo' ∧ OthI tab' b0 Bo')
    ⟨_, _, _, rfl, hso, bG', npG', tpG', Bo, cG', oi0⟩ (fun i σ G _ ⟨_, _, _, _, e, _⟩ => SqL.of e) ?_ ?_
  rotate_left
  · rintro σ G ⟨y9, y10, y11, rfl, _⟩
    exact q _
  rintro i y σ G hy ⟨y9, y10, y11, rfl, hso, bK, hnp, htp, Bo', cK, oi⟩
  obtain ⟨m, hm, rfl⟩ := nV_get hy
  have hmt := hos m (List.mem_of_getElem? hm)
  have hmn : m < nums.length := by rw [pu.len]; exact hmt
  obtain ⟨tr, et, okc, dep, wide, inX⟩ := tree_of mo.low (fun r hr => by have := mo.side r hr; omega) m hmt
  have mdep := mo.dep m hmt
  have mtx := mo.text m hmt
  have eg : gread (TL.tl (tt tab' m)) 12 0 = some (tr, (tt tab' m).length) := by
    have h := gread_comp (TL.tl (tt tab' m)) 12 tr okc (by omega) 0 [] (by rw [et]; simp)
    rw [h, et, Nat.zero_add, TL.len_tl]
  have lowm := pu.low _ (nm_mem hmn)
  have hasm := putT_has Bf tr pu.ok (nm nums m) lowm (by rw [pu.text mo.low m hmt, et])
  have Bfl : Bf.length ≤ 100000 := by have := pu.size; have e : B0.length = 1 := rfl; omega
  have gtx : ∀ {G : Hp}, G tp = some (.lst (sV (evalB txF "0" tab'))) → ∀ {Q : VK}, Q (.str (tt tab' m)) G → rIxL K (.ref tp) (.int (m : Int)) G Q := fun {G} h {Q} q => w_ixL (SqL.of h) (atI_nat (v := .str (tt tab' m)) (sV_get (evalB_get txF "0" hmt))) q
  walk_at "st"
  refine gtx htp ?_
  walk_at "st"
  refine ⟨k, Bf, rfl, bK, Bfl, .inl ⟨tt tab' m, rfl, by omega, .inl ⟨tr, eg, wide, fun G1 b1 g1 => ?_⟩⟩⟩
  rw [hasm] at b1 ⊢
  have hso1 := g1.kp _ _ hso sS1
  have hnp1 := g1.kp _ _ hnp np1
  have htp1 := g1.kp _ _ htp tp1
  have c1 := cK.fr g1 k21
  walk_at "st"
  refine ⟨_, rfl, ?_⟩
  walk_at "st"
  refine w_ixL (SqL.of hnp1) (atI_nat (v := .int (nm nums m : Nat)) (by unfold nV; rw [List.getElem?_map, nm_get hmn]; rfl)) ?_
  walk_at "st"
  refine w_no (by simp) ?_
  walk_at "st"
  refine gtx htp1 ?_
  walk_at "st"
  have ol := oi.len
  have b06 := oi.b6
  refine ⟨k2, Bo', rfl, c1, by omega, .inl ⟨tt tab' m, rfl, by omega, .inl ⟨tr, eg, wide, fun G2 c2 g2 => ?_⟩⟩⟩
  have po := putT_ok Bo' tr oi.ok
  have oi2 := oi.put inX
  have has2 : putT (putT Bo' tr).1 tr = ((putT Bo' tr).1, (putT Bo' tr).2) := putT_has _ tr po.ok _ po.low po.tx
  have ptx := po.tx
  have plow := po.low
  generalize putT Bo' tr = pr at *
  obtain ⟨Bo2, gn⟩ := pr
  dsimp only at *
  have ol2 := oi2.len
  have o63 : Bo2.length ≤ 63 := by omega
  have txb : ∀ j, j < Bo2.length → (tx Bo2 j).length ≤ 10000 := fun j hj => by
    by_cases c : j < b0
    · have := oi2.old j c; omega
    · obtain ⟨i, hi, e⟩ := oi2.new j (Nat.le_of_not_lt c) hj
      rw [e]
      have := mo.text i hi
      omega
  have hso2 := g2.kp _ _ hso1 sS
  have hnp2 := g2.kp _ _ hnp1 np2
  have htp2 := g2.kp _ _ htp1 tp2
  have b2 := b1.fr g2 k12
  walk_at "st"
  refine ⟨_, rfl, ?_⟩
  walk_at "st"
  have dg := dp_le po.ok gn plow
  refine ⟨k2, Bo2, gn, rfl, rfl, c2, o63, txb, plow, by omega, fun G3 g3 => ?_⟩
  walk_at "st"
  refine gtx (g3.kp _ _ htp2 (by simp)) ?_
  walk_at "st"
  rw [ptx, et]
  refine w_no (by simp) ?_
  walk_at "st"
  refine gtx (g3.kp _ _ htp2 (by simp)) ?_
  walk_at "st"
  refine ⟨k2, Bo2, rfl, c2.fr0 g3, by omega, .inl ⟨tt tab' m, rfl, by omega, .inl ⟨tr, eg, wide, fun G4 c4 g4 => ?_⟩⟩⟩
  rw [has2] at c4 ⊢
  walk_at "st"
  refine w_no (by simp) ?_
  walk_at "st"
  refine ⟨k2, Bo2, rfl, c4, o63, fun j hj => by have := txb j hj; omega, .inl ⟨gn, rfl, plow, fun G5 g5 => ?_⟩⟩
  have g35 : Fr k2.S G2 G5 := (g3.of0.trans g4).trans g5.of0
  walk_at "st"
  refine gtx (g35.kp _ _ htp2 tp2) ?_
  walk_at "st"
  rw [ptx, et]
  refine w_no (by simp) ?_
  walk_at "st"
  exact ⟨_, _, _, rfl, g35.kp _ _ hso2 sS, b2.fr g35 k12, g35.kp _ _ hnp2 np2, g35.kp _ _ htp2 tp2, Bo2, c4.fr0 g5, oi2⟩
end

theorem all_mk {l : PySem.W.OpenLaw} {w : World} {K : PySem.W.Frag} {h : Heap} {mg : Str → Option Value} {fa CB CE CT : Addr} {f_Book_need f_Book_lefts f_Book_rights f_Book_depth f_Book_many f_Book_game f_Book_init f_reached f_show f__law_cell f__law_store f__law_take f__law_games f__law_put f__law_more f__law_listed f__law_texts f_game_read f_put_tree f_read f__law_number f__law_walked f_law f_side_read : Addr}
    {od_Book_need an_Book_need od_Book_lefts an_Book_lefts od_Book_rights an_Book_rights od_Book_depth an_Book_depth od_Book_many an_Book_many od_Book_game an_Book_game od_Book_init an_Book_init od_reached an_reached od_show an_show od__law_cell an__law_cell od__law_store an__law_store od__law_take an__law_take od__law_games an__law_games od__law_put an__law_put od__law_more an__law_more od__law_listed an__law_listed od__law_texts an__law_texts od_game_read an_game_read od_put_tree an_put_tree od_read an_read od__law_number an__law_number od__law_walked an__law_walked od_law an_law od_side_read an_side_read : Option Addr} {sl_Book_need sl_Book_lefts sl_Book_rights sl_Book_depth sl_Book_many sl_Book_game sl_Book_init sl_reached sl_show sl__law_cell sl__law_store sl__law_take sl__law_games sl__law_put sl__law_more sl__law_listed sl__law_texts sl_game_read sl_put_tree sl_read sl__law_number sl__law_walked sl_law sl_side_read : Array (Option Value)} {oc_Book_need kV_Book_need dc_Book_need pm_Book_need cd_Book_need ct_Book_need oc_Book_lefts kV_Book_lefts dc_Book_lefts pm_Book_lefts cd_Book_lefts ct_Book_lefts oc_Book_rights kV_Book_rights dc_Book_rights pm_Book_rights cd_Book_rights ct_Book_rights oc_Book_depth kV_Book_depth dc_Book_depth pm_Book_depth cd_Book_depth ct_Book_depth oc_Book_many kV_Book_many dc_Book_many pm_Book_many cd_Book_many ct_Book_many oc_Book_game kV_Book_game dc_Book_game pm_Book_game cd_Book_game ct_Book_game oc_Book_init kV_Book_init dc_Book_init pm_Book_init cd_Book_init ct_Book_init oc_reached kV_reached dc_reached pm_reached cd_reached ct_reached oc_show kV_show dc_show pm_show cd_show ct_show oc__law_cell kV__law_cell dc__law_cell pm__law_cell cd__law_cell ct__law_cell oc__law_store kV__law_store dc__law_store pm__law_store cd__law_store ct__law_store oc__law_take kV__law_take dc__law_take pm__law_take cd__law_take ct__law_take oc__law_games kV__law_games dc__law_games pm__law_games cd__law_games ct__law_games oc__law_put kV__law_put dc__law_put pm__law_put cd__law_put ct__law_put oc__law_more kV__law_more dc__law_more pm__law_more cd__law_more ct__law_more oc__law_listed kV__law_listed dc__law_listed pm__law_listed cd__law_listed ct__law_listed oc__law_texts kV__law_texts dc__law_texts pm__law_texts cd__law_texts ct__law_texts oc_game_read kV_game_read dc_game_read pm_game_read cd_game_read ct_game_read oc_put_tree kV_put_tree dc_put_tree pm_put_tree cd_put_tree ct_put_tree oc_read kV_read dc_read pm_read cd_read ct_read oc__law_number kV__law_number dc__law_number pm__law_number cd__law_number ct__law_number oc__law_walked kV__law_walked dc__law_walked pm__law_walked cd__law_walked ct__law_walked oc_law kV_law dc_law pm_law cd_law ct_law oc_side_read kV_side_read dc_side_read pm_side_read cd_side_read ct_side_read : Value}
    {tkD : Tok}
    (X : K.In h) (G : h.Ns mainGlobals mg) (hfa : mg "law" = some (.ref fa))
    (aCB : PySem.W.nsIn K mainGlobals "Book" = some (some (.ref CB)))
    (aCE : PySem.W.nsIn K mainGlobals "NoGame" = some (some (.ref CE)))
    (aCT : PySem.W.nsIn K mainGlobals "NoText" = some (some (.ref CT)))
    (a_Book_need : PySem.W.findIn K (.ref CB) "need" = some (some (.ref f_Book_need)))
    (i_Book_need : PySem.W.isFn K (.ref f_Book_need) = true)
    (l_Book_need : K.lookup f_Book_need = some ⟨oc_Book_need, od_Book_need, .func (PySem.W.fnOf "need" "Book.need" (defArgs s_Book_need) (defBody s_Book_need) (defScope s_Book_need) .none kV_Book_need dc_Book_need pm_Book_need an_Book_need cd_Book_need ct_Book_need), sl_Book_need⟩)
    (c_Book_need : PySem.W.codeIn K cd_Book_need "Book.need" = true)
    (k_Book_need : PySem.W.keepIn K (.ref f_Book_need) = true)
    (a_Book_lefts : PySem.W.findIn K (.ref CB) "lefts" = some (some (.ref f_Book_lefts)))
    (i_Book_lefts : PySem.W.isFn K (.ref f_Book_lefts) = true)
    (l_Book_lefts : K.lookup f_Book_lefts = some ⟨oc_Book_lefts, od_Book_lefts, .func (PySem.W.fnOf "lefts" "Book.lefts" (defArgs s_Book_lefts) (defBody s_Book_lefts) (defScope s_Book_lefts) .none kV_Book_lefts dc_Book_lefts pm_Book_lefts an_Book_lefts cd_Book_lefts ct_Book_lefts), sl_Book_lefts⟩)
    (c_Book_lefts : PySem.W.codeIn K cd_Book_lefts "Book.lefts" = true)
    (k_Book_lefts : PySem.W.keepIn K (.ref f_Book_lefts) = true)
    (a_Book_rights : PySem.W.findIn K (.ref CB) "rights" = some (some (.ref f_Book_rights)))
    (i_Book_rights : PySem.W.isFn K (.ref f_Book_rights) = true)
    (l_Book_rights : K.lookup f_Book_rights = some ⟨oc_Book_rights, od_Book_rights, .func (PySem.W.fnOf "rights" "Book.rights" (defArgs s_Book_rights) (defBody s_Book_rights) (defScope s_Book_rights) .none kV_Book_rights dc_Book_rights pm_Book_rights an_Book_rights cd_Book_rights ct_Book_rights), sl_Book_rights⟩)
    (c_Book_rights : PySem.W.codeIn K cd_Book_rights "Book.rights" = true)
    (k_Book_rights : PySem.W.keepIn K (.ref f_Book_rights) = true)
    (a_Book_depth : PySem.W.findIn K (.ref CB) "depth" = some (some (.ref f_Book_depth)))
    (i_Book_depth : PySem.W.isFn K (.ref f_Book_depth) = true)
    (l_Book_depth : K.lookup f_Book_depth = some ⟨oc_Book_depth, od_Book_depth, .func (PySem.W.fnOf "depth" "Book.depth" (defArgs s_Book_depth) (defBody s_Book_depth) (defScope s_Book_depth) .none kV_Book_depth dc_Book_depth pm_Book_depth an_Book_depth cd_Book_depth ct_Book_depth), sl_Book_depth⟩)
    (c_Book_depth : PySem.W.codeIn K cd_Book_depth "Book.depth" = true)
    (k_Book_depth : PySem.W.keepIn K (.ref f_Book_depth) = true)
    (a_Book_many : PySem.W.findIn K (.ref CB) "many" = some (some (.ref f_Book_many)))
    (i_Book_many : PySem.W.isFn K (.ref f_Book_many) = true)
    (l_Book_many : K.lookup f_Book_many = some ⟨oc_Book_many, od_Book_many, .func (PySem.W.fnOf "many" "Book.many" (defArgs s_Book_many) (defBody s_Book_many) (defScope s_Book_many) .none kV_Book_many dc_Book_many pm_Book_many an_Book_many cd_Book_many ct_Book_many), sl_Book_many⟩)
    (c_Book_many : PySem.W.codeIn K cd_Book_many "Book.many" = true)
    (k_Book_many : PySem.W.keepIn K (.ref f_Book_many) = true)
    (a_Book_game : PySem.W.findIn K (.ref CB) "game" = some (some (.ref f_Book_game)))
    (i_Book_game : PySem.W.isFn K (.ref f_Book_game) = true)
    (l_Book_game : K.lookup f_Book_game = some ⟨oc_Book_game, od_Book_game, .func (PySem.W.fnOf "game" "Book.game" (defArgs s_Book_game) (defBody s_Book_game) (defScope s_Book_game) .none kV_Book_game dc_Book_game pm_Book_game an_Book_game cd_Book_game ct_Book_game), sl_Book_game⟩)
    (c_Book_game : PySem.W.codeIn K cd_Book_game "Book.game" = true)
    (k_Book_game : PySem.W.keepIn K (.ref f_Book_game) = true)
    (a_Book_init : PySem.W.findIn K (.ref CB) "__init__" = some (some (.ref f_Book_init)))
    (i_Book_init : PySem.W.isFn K (.ref f_Book_init) = true)
    (l_Book_init : K.lookup f_Book_init = some ⟨oc_Book_init, od_Book_init, .func (PySem.W.fnOf "__init__" "Book.__init__" (defArgs s_Book_init) (defBody s_Book_init) (defScope s_Book_init) .none kV_Book_init dc_Book_init pm_Book_init an_Book_init cd_Book_init ct_Book_init), sl_Book_init⟩)
    (c_Book_init : PySem.W.codeIn K cd_Book_init "Book.__init__" = true)
    (k_Book_init : PySem.W.keepIn K (.ref f_Book_init) = true)
    (a_reached : PySem.W.nsIn K mainGlobals "reached" = some (some (.ref f_reached)))
    (l_reached : K.lookup f_reached = some ⟨oc_reached, od_reached, .func (PySem.W.fnOf "reached" "reached" (defArgs s_reached) (defBody s_reached) (defScope s_reached) .none kV_reached dc_reached pm_reached an_reached cd_reached ct_reached), sl_reached⟩)
    (c_reached : PySem.W.codeIn K cd_reached "reached" = true)
    (k_reached : PySem.W.keepIn K (.ref f_reached) = true)
    (a_show : PySem.W.nsIn K mainGlobals "show" = some (some (.ref f_show)))
    (l_show : K.lookup f_show = some ⟨oc_show, od_show, .func (PySem.W.fnOf "show" "show" (defArgs s_show) (defBody s_show) (defScope s_show) .none kV_show dc_show pm_show an_show cd_show ct_show), sl_show⟩)
    (c_show : PySem.W.codeIn K cd_show "show" = true)
    (k_show : PySem.W.keepIn K (.ref f_show) = true)
    (a__law_cell : PySem.W.nsIn K mainGlobals "_law_cell" = some (some (.ref f__law_cell)))
    (l__law_cell : K.lookup f__law_cell = some ⟨oc__law_cell, od__law_cell, .func (PySem.W.fnOf "_law_cell" "_law_cell" (defArgs s__law_cell) (defBody s__law_cell) (defScope s__law_cell) .none kV__law_cell dc__law_cell pm__law_cell an__law_cell cd__law_cell ct__law_cell), sl__law_cell⟩)
    (c__law_cell : PySem.W.codeIn K cd__law_cell "_law_cell" = true)
    (k__law_cell : PySem.W.keepIn K (.ref f__law_cell) = true)
    (a__law_store : PySem.W.nsIn K mainGlobals "_law_store" = some (some (.ref f__law_store)))
    (l__law_store : K.lookup f__law_store = some ⟨oc__law_store, od__law_store, .func (PySem.W.fnOf "_law_store" "_law_store" (defArgs s__law_store) (defBody s__law_store) (defScope s__law_store) .none kV__law_store dc__law_store pm__law_store an__law_store cd__law_store ct__law_store), sl__law_store⟩)
    (c__law_store : PySem.W.codeIn K cd__law_store "_law_store" = true)
    (k__law_store : PySem.W.keepIn K (.ref f__law_store) = true)
    (a__law_take : PySem.W.nsIn K mainGlobals "_law_take" = some (some (.ref f__law_take)))
    (l__law_take : K.lookup f__law_take = some ⟨oc__law_take, od__law_take, .func (PySem.W.fnOf "_law_take" "_law_take" (defArgs s__law_take) (defBody s__law_take) (defScope s__law_take) .none kV__law_take dc__law_take pm__law_take an__law_take cd__law_take ct__law_take), sl__law_take⟩)
    (c__law_take : PySem.W.codeIn K cd__law_take "_law_take" = true)
    (k__law_take : PySem.W.keepIn K (.ref f__law_take) = true)
    (a__law_games : PySem.W.nsIn K mainGlobals "_law_games" = some (some (.ref f__law_games)))
    (l__law_games : K.lookup f__law_games = some ⟨oc__law_games, od__law_games, .func (PySem.W.fnOf "_law_games" "_law_games" (defArgs s__law_games) (defBody s__law_games) (defScope s__law_games) .none kV__law_games dc__law_games pm__law_games an__law_games cd__law_games ct__law_games), sl__law_games⟩)
    (c__law_games : PySem.W.codeIn K cd__law_games "_law_games" = true)
    (k__law_games : PySem.W.keepIn K (.ref f__law_games) = true)
    (a__law_put : PySem.W.nsIn K mainGlobals "_law_put" = some (some (.ref f__law_put)))
    (l__law_put : K.lookup f__law_put = some ⟨oc__law_put, od__law_put, .func (PySem.W.fnOf "_law_put" "_law_put" (defArgs s__law_put) (defBody s__law_put) (defScope s__law_put) .none kV__law_put dc__law_put pm__law_put an__law_put cd__law_put ct__law_put), sl__law_put⟩)
    (c__law_put : PySem.W.codeIn K cd__law_put "_law_put" = true)
    (k__law_put : PySem.W.keepIn K (.ref f__law_put) = true)
    (a__law_more : PySem.W.nsIn K mainGlobals "_law_more" = some (some (.ref f__law_more)))
    (l__law_more : K.lookup f__law_more = some ⟨oc__law_more, od__law_more, .func (PySem.W.fnOf "_law_more" "_law_more" (defArgs s__law_more) (defBody s__law_more) (defScope s__law_more) .none kV__law_more dc__law_more pm__law_more an__law_more cd__law_more ct__law_more), sl__law_more⟩)
    (c__law_more : PySem.W.codeIn K cd__law_more "_law_more" = true)
    (k__law_more : PySem.W.keepIn K (.ref f__law_more) = true)
    (a__law_listed : PySem.W.nsIn K mainGlobals "_law_listed" = some (some (.ref f__law_listed)))
    (l__law_listed : K.lookup f__law_listed = some ⟨oc__law_listed, od__law_listed, .func (PySem.W.fnOf "_law_listed" "_law_listed" (defArgs s__law_listed) (defBody s__law_listed) (defScope s__law_listed) .none kV__law_listed dc__law_listed pm__law_listed an__law_listed cd__law_listed ct__law_listed), sl__law_listed⟩)
    (c__law_listed : PySem.W.codeIn K cd__law_listed "_law_listed" = true)
    (k__law_listed : PySem.W.keepIn K (.ref f__law_listed) = true)
    (a__law_texts : PySem.W.nsIn K mainGlobals "_law_texts" = some (some (.ref f__law_texts)))
    (l__law_texts : K.lookup f__law_texts = some ⟨oc__law_texts, od__law_texts, .func (PySem.W.fnOf "_law_texts" "_law_texts" (defArgs s__law_texts) (defBody s__law_texts) (defScope s__law_texts) .none kV__law_texts dc__law_texts pm__law_texts an__law_texts cd__law_texts ct__law_texts), sl__law_texts⟩)
    (c__law_texts : PySem.W.codeIn K cd__law_texts "_law_texts" = true)
    (k__law_texts : PySem.W.keepIn K (.ref f__law_texts) = true)
    (a_game_read : PySem.W.nsIn K mainGlobals "game_read" = some (some (.ref f_game_read)))
    (l_game_read : K.lookup f_game_read = some ⟨oc_game_read, od_game_read, .func (PySem.W.fnOf "game_read" "game_read" (defArgs s_game_read) (defBody s_game_read) (defScope s_game_read) .none kV_game_read dc_game_read pm_game_read an_game_read cd_game_read ct_game_read), sl_game_read⟩)
    (c_game_read : PySem.W.codeIn K cd_game_read "game_read" = true)
    (k_game_read : PySem.W.keepIn K (.ref f_game_read) = true)
    (a_put_tree : PySem.W.nsIn K mainGlobals "put_tree" = some (some (.ref f_put_tree)))
    (l_put_tree : K.lookup f_put_tree = some ⟨oc_put_tree, od_put_tree, .func (PySem.W.fnOf "put_tree" "put_tree" (defArgs s_put_tree) (defBody s_put_tree) (defScope s_put_tree) .none kV_put_tree dc_put_tree pm_put_tree an_put_tree cd_put_tree ct_put_tree), sl_put_tree⟩)
    (c_put_tree : PySem.W.codeIn K cd_put_tree "put_tree" = true)
    (k_put_tree : PySem.W.keepIn K (.ref f_put_tree) = true)
    (a_read : PySem.W.nsIn K mainGlobals "read" = some (some (.ref f_read)))
    (l_read : K.lookup f_read = some ⟨oc_read, od_read, .func (PySem.W.fnOf "read" "read" (defArgs s_read) (defBody s_read) (defScope s_read) .none kV_read dc_read pm_read an_read cd_read ct_read), sl_read⟩)
    (c_read : PySem.W.codeIn K cd_read "read" = true)
    (k_read : PySem.W.keepIn K (.ref f_read) = true)
    (a__law_number : PySem.W.nsIn K mainGlobals "_law_number" = some (some (.ref f__law_number)))
    (l__law_number : K.lookup f__law_number = some ⟨oc__law_number, od__law_number, .func (PySem.W.fnOf "_law_number" "_law_number" (defArgs s__law_number) (defBody s__law_number) (defScope s__law_number) .none kV__law_number dc__law_number pm__law_number an__law_number cd__law_number ct__law_number), sl__law_number⟩)
    (c__law_number : PySem.W.codeIn K cd__law_number "_law_number" = true)
    (k__law_number : PySem.W.keepIn K (.ref f__law_number) = true)
    (a__law_walked : PySem.W.nsIn K mainGlobals "_law_walked" = some (some (.ref f__law_walked)))
    (l__law_walked : K.lookup f__law_walked = some ⟨oc__law_walked, od__law_walked, .func (PySem.W.fnOf "_law_walked" "_law_walked" (defArgs s__law_walked) (defBody s__law_walked) (defScope s__law_walked) .none kV__law_walked dc__law_walked pm__law_walked an__law_walked cd__law_walked ct__law_walked), sl__law_walked⟩)
    (c__law_walked : PySem.W.codeIn K cd__law_walked "_law_walked" = true)
    (k__law_walked : PySem.W.keepIn K (.ref f__law_walked) = true)
    (a_law : PySem.W.nsIn K mainGlobals "law" = some (some (.ref f_law)))
    (l_law : K.lookup f_law = some ⟨oc_law, od_law, .func (PySem.W.fnOf "law" "law" (defArgs s_law) (defBody s_law) (defScope s_law) .none kV_law dc_law pm_law an_law cd_law ct_law), sl_law⟩)
    (c_law : PySem.W.codeIn K cd_law "law" = true)
    (k_law : PySem.W.keepIn K (.ref f_law) = true)
    (a_side_read : PySem.W.nsIn K mainGlobals "side_read" = some (some (.ref f_side_read)))
    (l_side_read : K.lookup f_side_read = some ⟨oc_side_read, od_side_read, .func (PySem.W.fnOf "side_read" "side_read" (defArgs s_side_read) (defBody s_side_read) (defScope s_side_read) .none kV_side_read dc_side_read pm_side_read an_side_read cd_side_read ct_side_read), sl_side_read⟩)
    (c_side_read : PySem.W.codeIn K cd_side_read "side_read" = true)
    (k_side_read : PySem.W.keepIn K (.ref f_side_read) = true)
    (pgCB : PySem.W.plainGet K CB Str.empty = true)
    (hdCB : PySem.W.hasDictIn K CB = true)
    (poCB : PySem.W.plainOver K CB = true)
    (saCB : PySem.W.findIn K (.ref CB) "__setattr__" = some (some (.builtin "object.__setattr__")))
    (mkCB : PySem.W.makesIn K CB = true)
    (kcCB : PySem.W.keepIn K (.ref CB) = true)
    (nCB_moves : PySem.W.findIn K (.ref CB) "moves" = some none)
    (nCB_numbers : PySem.W.findIn K (.ref CB) "numbers" = some none)
    (nCB_depths : PySem.W.findIn K (.ref CB) "depths" = some none)
    (xxCE : PySem.W.excIn K CE [.type "ValueError", .type "Exception", .type "BaseException", .type "object"] "ValueError.__new__" = true)
    (xkCE : PySem.W.keepIn K (.ref CE) = true)
    (xbCE : PySem.W.subIn K (.ref CE) (.type "BaseException") = some true)
    (xtCE : PySem.W.typeIn K (.ref CE) = some (.type "type"))
    (xxCT : PySem.W.excIn K CT [.type "ValueError", .type "Exception", .type "BaseException", .type "object"] "ValueError.__new__" = true)
    (xkCT : PySem.W.keepIn K (.ref CT) = true)
    (xbCT : PySem.W.subIn K (.ref CT) (.type "BaseException") = some true)
    (xtCT : PySem.W.typeIn K (.ref CT) = some (.type "type"))
    (aDP : PySem.W.nsIn K mainGlobals "DEEPEST" = some (some (.int 12 tkD)))
    (z_len : PySem.W.nsIn K mainGlobals "len" = some none)
    (z_range : PySem.W.nsIn K mainGlobals "range" = some none)
    (z_sorted : PySem.W.nsIn K mainGlobals "sorted" = some none)
    (z_set : PySem.W.nsIn K mainGlobals "set" = some none)
    (z_tuple : PySem.W.nsIn K mainGlobals "tuple" = some none)
    (z_list : PySem.W.nsIn K mainGlobals "list" = some none)
    (z_isinstance : PySem.W.nsIn K mainGlobals "isinstance" = some none)
    (z_int : PySem.W.nsIn K mainGlobals "int" = some none)
    (z_bool : PySem.W.nsIn K mainGlobals "bool" = some none)
    (z_str : PySem.W.nsIn K mainGlobals "str" = some none)
    (z_max : PySem.W.nsIn K mainGlobals "max" = some none)
    (z_min : PySem.W.nsIn K mainGlobals "min" = some none)
    (z_ValueError : PySem.W.nsIn K mainGlobals "ValueError" = some none) :
    ∃ fd : FuncData, (∀ (s : Shared) (v : Value), BindsTo s fd ⟨[v], []⟩ [("script", v)]) ∧ ∀ base : Heap, K.In base → base.Ns mainGlobals mg → FnOk l.prog w K mg base CX0 103 fa fd ["script"] (sp1 (cLaw K)) := by
  have e := hfa.symm.trans (PySem.W.mg_of X G a_law)
  cases e
  have B : Blt mg := ⟨PySem.W.mg_none_of X G z_len, PySem.W.mg_none_of X G z_range, PySem.W.mg_none_of X G z_sorted, PySem.W.mg_none_of X G z_set, PySem.W.mg_none_of X G z_tuple, PySem.W.mg_none_of X G z_list, PySem.W.mg_none_of X G z_isinstance, PySem.W.mg_none_of X G z_int, PySem.W.mg_none_of X G z_bool, PySem.W.mg_none_of X G z_str, PySem.W.mg_none_of X G z_max, PySem.W.mg_none_of X G z_min, PySem.W.mg_none_of X G z_ValueError⟩
  have CCB : Cls K CB := ⟨pgCB, hdCB, poCB, saCB⟩
  have T : BkT K CB := ⟨CCB, nCB_moves, nCB_numbers, nCB_depths⟩
  have DT : DeepT mg := ⟨_, PySem.W.mg_of X G aDP⟩
  have x_NoGame : Xc K mg "NoGame" CE := ⟨PySem.W.mg_of X G aCE, xxCE, xkCE, xbCE, xtCE⟩
  have x_NoText : Xc K mg "NoText" CT := ⟨PySem.W.mg_of X G aCT, xxCT, xkCT, xbCT, xtCT⟩
  have F_Book_need := fun_mk (st := s_Book_need) l_Book_need c_Book_need k_Book_need
  have b_Book_need := F_Book_need.binds (ps := ["self", "g"]) fun _ _ _ _ _ _ us hl => match us, hl with | [_, _], _ => rfl
  have S_Book_need : SrcM K CB "need" "Book.need" s_Book_need ["self", "g"] := ⟨_, _, CCB, ⟨a_Book_need, i_Book_need, k_Book_need⟩, F_Book_need, b_Book_need⟩
  have F_Book_lefts := fun_mk (st := s_Book_lefts) l_Book_lefts c_Book_lefts k_Book_lefts
  have b_Book_lefts := F_Book_lefts.binds (ps := ["self", "g"]) fun _ _ _ _ _ _ us hl => match us, hl with | [_, _], _ => rfl
  have S_Book_lefts : SrcM K CB "lefts" "Book.lefts" s_Book_lefts ["self", "g"] := ⟨_, _, CCB, ⟨a_Book_lefts, i_Book_lefts, k_Book_lefts⟩, F_Book_lefts, b_Book_lefts⟩
  have F_Book_rights := fun_mk (st := s_Book_rights) l_Book_rights c_Book_rights k_Book_rights
  have b_Book_rights := F_Book_rights.binds (ps := ["self", "g"]) fun _ _ _ _ _ _ us hl => match us, hl with | [_, _], _ => rfl
  have S_Book_rights : SrcM K CB "rights" "Book.rights" s_Book_rights ["self", "g"] := ⟨_, _, CCB, ⟨a_Book_rights, i_Book_rights, k_Book_rights⟩, F_Book_rights, b_Book_rights⟩
  have F_Book_depth := fun_mk (st := s_Book_depth) l_Book_depth c_Book_depth k_Book_depth
  have b_Book_depth := F_Book_depth.binds (ps := ["self", "g"]) fun _ _ _ _ _ _ us hl => match us, hl with | [_, _], _ => rfl
  have S_Book_depth : SrcM K CB "depth" "Book.depth" s_Book_depth ["self", "g"] := ⟨_, _, CCB, ⟨a_Book_depth, i_Book_depth, k_Book_depth⟩, F_Book_depth, b_Book_depth⟩
  have F_Book_many := fun_mk (st := s_Book_many) l_Book_many c_Book_many k_Book_many
  have b_Book_many := F_Book_many.binds (ps := ["self"]) fun _ _ _ _ _ _ us hl => match us, hl with | [_], _ => rfl
  have S_Book_many : SrcM K CB "many" "Book.many" s_Book_many ["self"] := ⟨_, _, CCB, ⟨a_Book_many, i_Book_many, k_Book_many⟩, F_Book_many, b_Book_many⟩
  have F_Book_game := fun_mk (st := s_Book_game) l_Book_game c_Book_game k_Book_game
  have b_Book_game := F_Book_game.binds (ps := ["self", "lefts", "rights"]) fun _ _ _ _ _ _ us hl => match us, hl with | [_, _, _], _ => rfl
  have S_Book_game : SrcM K CB "game" "Book.game" s_Book_game ["self", "lefts", "rights"] := ⟨_, _, CCB, ⟨a_Book_game, i_Book_game, k_Book_game⟩, F_Book_game, b_Book_game⟩
  have F_Book_init := fun_mk (st := s_Book_init) l_Book_init c_Book_init k_Book_init
  have b_Book_init := F_Book_init.binds (ps := ["self"]) fun _ _ _ _ _ _ us hl => match us, hl with | [_], _ => rfl
  have S_Book_init : SrcI K mg CB "Book" "Book.__init__" s_Book_init ["self"] := ⟨_, _, ⟨mkCB, a_Book_init, i_Book_init, kcCB⟩, PySem.W.mg_of X G aCB, F_Book_init, b_Book_init⟩
  have F_reached := fun_mk (st := s_reached) l_reached c_reached k_reached
  have b_reached := F_reached.binds (ps := ["book", "g"]) fun _ _ _ _ _ _ us hl => match us, hl with | [_, _], _ => rfl
  have S_reached : Src K mg "reached" s_reached ["book", "g"] := ⟨_, _, PySem.W.mg_of X G a_reached, F_reached, b_reached⟩
  have F_show := fun_mk (st := s_show) l_show c_show k_show
  have b_show := F_show.binds (ps := ["book", "g"]) fun _ _ _ _ _ _ us hl => match us, hl with | [_, _], _ => rfl
  have S_show : Src K mg "show" s_show ["book", "g"] := ⟨_, _, PySem.W.mg_of X G a_show, F_show, b_show⟩
  have F__law_cell := fun_mk (st := s__law_cell) l__law_cell c__law_cell k__law_cell
  have b__law_cell := F__law_cell.binds (ps := ["script", "k"]) fun _ _ _ _ _ _ us hl => match us, hl with | [_, _], _ => rfl
  have S__law_cell : Src K mg "_law_cell" s__law_cell ["script", "k"] := ⟨_, _, PySem.W.mg_of X G a__law_cell, F__law_cell, b__law_cell⟩
  have F__law_store := fun_mk (st := s__law_store) l__law_store c__law_store k__law_store
  have b__law_store := F__law_store.binds (ps := ["cell"]) fun _ _ _ _ _ _ us hl => match us, hl with | [_], _ => rfl
  have S__law_store : Src K mg "_law_store" s__law_store ["cell"] := ⟨_, _, PySem.W.mg_of X G a__law_store, F__law_store, b__law_store⟩
  have F__law_take := fun_mk (st := s__law_take) l__law_take c__law_take k__law_take
  have b__law_take := F__law_take.binds (ps := ["store", "many"]) fun _ _ _ _ _ _ us hl => match us, hl with | [_, _], _ => rfl
  have S__law_take : Src K mg "_law_take" s__law_take ["store", "many"] := ⟨_, _, PySem.W.mg_of X G a__law_take, F__law_take, b__law_take⟩
  have F__law_games := fun_mk (st := s__law_games) l__law_games c__law_games k__law_games
  have b__law_games := F__law_games.binds (ps := ["script", "begin", "most", "deepest"]) fun _ _ _ _ _ _ us hl => match us, hl with | [_, _, _, _], _ => rfl
  have S__law_games : Src K mg "_law_games" s__law_games ["script", "begin", "most", "deepest"] := ⟨_, _, PySem.W.mg_of X G a__law_games, F__law_games, b__law_games⟩
  have F__law_put := fun_mk (st := s__law_put) l__law_put c__law_put k__law_put
  have b__law_put := F__law_put.binds (ps := ["book", "table"]) fun _ _ _ _ _ _ us hl => match us, hl with | [_, _], _ => rfl
  have S__law_put : Src K mg "_law_put" s__law_put ["book", "table"] := ⟨_, _, PySem.W.mg_of X G a__law_put, F__law_put, b__law_put⟩
  have F__law_more := fun_mk (st := s__law_more) l__law_more c__law_more k__law_more
  have b__law_more := F__law_more.binds (ps := ["store", "table", "rows"]) fun _ _ _ _ _ _ us hl => match us, hl with | [_, _, _], _ => rfl
  have S__law_more : Src K mg "_law_more" s__law_more ["store", "table", "rows"] := ⟨_, _, PySem.W.mg_of X G a__law_more, F__law_more, b__law_more⟩
  have F__law_listed := fun_mk (st := s__law_listed) l__law_listed c__law_listed k__law_listed
  have b__law_listed := F__law_listed.binds (ps := ["texts"]) fun _ _ _ _ _ _ us hl => match us, hl with | [_], _ => rfl
  have S__law_listed : Src K mg "_law_listed" s__law_listed ["texts"] := ⟨_, _, PySem.W.mg_of X G a__law_listed, F__law_listed, b__law_listed⟩
  have F__law_texts := fun_mk (st := s__law_texts) l__law_texts c__law_texts k__law_texts
  have b__law_texts := F__law_texts.binds (ps := ["table"]) fun _ _ _ _ _ _ us hl => match us, hl with | [_], _ => rfl
  have S__law_texts : Src K mg "_law_texts" s__law_texts ["table"] := ⟨_, _, PySem.W.mg_of X G a__law_texts, F__law_texts, b__law_texts⟩
  have F_game_read := fun_mk (st := s_game_read) l_game_read c_game_read k_game_read
  have b_game_read := F_game_read.binds (ps := ["text", "at", "room"]) fun _ _ _ _ _ _ us hl => match us, hl with | [_, _, _], _ => rfl
  have S_game_read : Src K mg "game_read" s_game_read ["text", "at", "room"] := ⟨_, _, PySem.W.mg_of X G a_game_read, F_game_read, b_game_read⟩
  have F_put_tree := fun_mk (st := s_put_tree) l_put_tree c_put_tree k_put_tree
  have b_put_tree := F_put_tree.binds (ps := ["book", "tree"]) fun _ _ _ _ _ _ us hl => match us, hl with | [_, _], _ => rfl
  have S_put_tree : Src K mg "put_tree" s_put_tree ["book", "tree"] := ⟨_, _, PySem.W.mg_of X G a_put_tree, F_put_tree, b_put_tree⟩
  have F_read := fun_mk (st := s_read) l_read c_read k_read
  have b_read := F_read.binds (ps := ["book", "text"]) fun _ _ _ _ _ _ us hl => match us, hl with | [_, _], _ => rfl
  have S_read : Src K mg "read" s_read ["book", "text"] := ⟨_, _, PySem.W.mg_of X G a_read, F_read, b_read⟩
  have F__law_number := fun_mk (st := s__law_number) l__law_number c__law_number k__law_number
  have b__law_number := F__law_number.binds (ps := ["found"]) fun _ _ _ _ _ _ us hl => match us, hl with | [_], _ => rfl
  have S__law_number : Src K mg "_law_number" s__law_number ["found"] := ⟨_, _, PySem.W.mg_of X G a__law_number, F__law_number, b__law_number⟩
  have F__law_walked := fun_mk (st := s__law_walked) l__law_walked c__law_walked k__law_walked
  have b__law_walked := F__law_walked.binds (ps := ["book", "g"]) fun _ _ _ _ _ _ us hl => match us, hl with | [_, _], _ => rfl
  have S__law_walked : Src K mg "_law_walked" s__law_walked ["book", "g"] := ⟨_, _, PySem.W.mg_of X G a__law_walked, F__law_walked, b__law_walked⟩
  have F_law := fun_mk (st := s_law) l_law c_law k_law
  have b_law := F_law.binds (ps := ["script"]) fun _ _ _ _ _ _ us hl => match us, hl with | [_], _ => rfl
  have F_side_read := fun_mk (st := s_side_read) l_side_read c_side_read k_side_read
  have b_side_read := F_side_read.binds (ps := ["text", "at", "end", "room"]) fun _ _ _ _ _ _ us hl => match us, hl with | [_, _, _, _], _ => rfl
  have S_side_read : Src K mg "side_read" s_side_read ["text", "at", "end", "room"] := ⟨_, _, PySem.W.mg_of X G a_side_read, F_side_read, b_side_read⟩
  refine ⟨PySem.W.fnOf "law" "law" (defArgs s_law) (defBody s_law) (defScope s_law) .none kV_law dc_law pm_law an_law cd_law ct_law, fun s v => .of_eq rfl, fun base _ _ => ?_⟩
  have d_Book_need := ok_need (P := l.prog) (w := w) (base := base) B T x_NoGame S_Book_need
  have d_Book_lefts := ok_lefts (P := l.prog) (w := w) (base := base) B T d_Book_need S_Book_lefts
  have d_Book_rights := ok_rights (P := l.prog) (w := w) (base := base) B T d_Book_need S_Book_rights
  have d_Book_depth := ok_depth (P := l.prog) (w := w) (base := base) B T d_Book_need S_Book_depth
  have d_Book_many := ok_many (P := l.prog) (w := w) (base := base) B T S_Book_many
  have d_Book_game := ok_game (P := l.prog) (w := w) (base := base) B T d_Book_need S_Book_game
  have d_Book_init := ok_Book (P := l.prog) (w := w) (base := base) B T S_Book_init
  have d_reached := ok_reached (P := l.prog) (w := w) (base := base) B T d_Book_depth d_Book_lefts d_Book_rights S_reached
  have d_show := ok_show (P := l.prog) (w := w) (base := base) B T d_Book_lefts d_Book_rights d_reached S_show
  have d__law_cell := ok__law_cell (P := l.prog) (w := w) (base := base) B S__law_cell
  have d__law_store := ok__law_store (P := l.prog) (w := w) (base := base) B S__law_store
  have d__law_take := ok__law_take (P := l.prog) (w := w) (base := base) B S__law_take
  have d__law_games := ok__law_games (P := l.prog) (w := w) (base := base) B d__law_cell d__law_store d__law_take S__law_games
  have d__law_put := ok__law_put (P := l.prog) (w := w) (base := base) B d_Book_game S__law_put
  have d__law_more := ok__law_more (P := l.prog) (w := w) (base := base) B d__law_take S__law_more
  have d__law_listed := ok__law_listed (P := l.prog) (w := w) (base := base) B S__law_listed
  have d__law_texts := ok__law_texts (P := l.prog) (w := w) (base := base) B d__law_listed S__law_texts
  have d_game_read := ok_game_read (P := l.prog) (w := w) (base := base) B S_side_read S_game_read
  have d_put_tree := ok_put_tree (P := l.prog) (w := w) (base := base) B d_Book_game S_put_tree
  have d_read := ok_read (P := l.prog) (w := w) (base := base) B x_NoText DT d_game_read d_put_tree S_read
  have d__law_number := ok__law_number (P := l.prog) (w := w) (base := base) B S__law_number
  have d__law_walked := ok__law_walked (P := l.prog) (w := w) (base := base) B d_Book_lefts d_Book_rights d__law_listed S__law_walked
  exact F_law.ok sc_law len1 (ok_law (P := l.prog) (w := w) (base := base) B T d__law_games d__law_cell d__law_store d__law_take d__law_more d_Book_init d__law_put d__law_texts d_Book_many d_Book_game d_show d_read d__law_walked d__law_number)
theorem walk {l : PySem.W.OpenLaw} {q : Program} {loose : List Str} {XP : (Str → Option Value) → Heap → Prop} {YP : World → Heap → Prop} {d : DefRec} {K : Params → PySem.W.Frag} (hn : l.most = some 63) (hdf : d.params.defaults = [])
    (hY : ∀ (w : World) (h : Heap), YP w h → (K w.params).In h)
    (F : ∀ (w : World) (mg : Str → Option Value) (fa : Addr) (h : Heap), (K w.params).In h → h.Ns mainGlobals mg → mg d.name = some (.ref fa) →
      ∃ fd : FuncData, (∀ (s : Shared) (u : Value), BindsTo s fd ⟨[u], []⟩ [("script", u)]) ∧ ∀ base : Heap, (K w.params).In base → base.Ns mainGlobals mg → FnOk l.prog w (K w.params) mg base CX0 103 fa fd ["script"] (sp1 (cLaw (K w.params)))) :
    PySem.W.WalkO q loose XP YP l.row.toRowW d [] (fun f vs => PySem.call f vs) :=
  L2.walk_of (n := 63) (k := 103) (x := "script") (CX := fun _ => CX0) (sp := fun w => sp1 (cLaw (K w.params))) hn (by decide) hdf ⟨rfl, by decide, by decide⟩ hY F (fun _ _ a ns hl _ hS => ⟨.ref a, rfl, a, ns, rfl, hS, fun _ => rfl⟩) fun _ _ _ _ _ z => z
end G
open PySem PySem.W PyProof.Rows
set_option maxRecDepth 100000 in
set_option maxHeartbeats 0 in
theorem PySem.Challenge.cw_hotmoves_k81_read_back_holds : PySem.Challenge.rw_hotmoves_k81_read_back.Holds := by
  w_on; o_law; k_head; (case hw => w_witness2)
  k_fill
  refine G.walk (l := PySem.Challenge.rw_hotmoves_k81_read_back) rfl rfl (fun w h Y => PySem.W.kIn_of Y) ?F
  case F =>
    intro w mg fa h KX hG hmg
    refine' G.all_mk KX hG hmg ?aCB ?aCE ?aCT ?a_Book_need ?i_Book_need ?l_Book_need ?c_Book_need ?k_Book_need ?a_Book_lefts ?i_Book_lefts ?l_Book_lefts ?c_Book_lefts ?k_Book_lefts ?a_Book_rights ?i_Book_rights ?l_Book_rights ?c_Book_rights ?k_Book_rights ?a_Book_depth ?i_Book_depth ?l_Book_depth ?c_Book_depth ?k_Book_depth ?a_Book_many ?i_Book_many ?l_Book_many ?c_Book_many ?k_Book_many ?a_Book_game ?i_Book_game ?l_Book_game ?c_Book_game ?k_Book_game ?a_Book_init ?i_Book_init ?l_Book_init ?c_Book_init ?k_Book_init ?a_reached ?l_reached ?c_reached ?k_reached ?a_show ?l_show ?c_show ?k_show ?a__law_cell ?l__law_cell ?c__law_cell ?k__law_cell ?a__law_store ?l__law_store ?c__law_store ?k__law_store ?a__law_take ?l__law_take ?c__law_take ?k__law_take ?a__law_games ?l__law_games ?c__law_games ?k__law_games ?a__law_put ?l__law_put ?c__law_put ?k__law_put ?a__law_more ?l__law_more ?c__law_more ?k__law_more ?a__law_listed ?l__law_listed ?c__law_listed ?k__law_listed ?a__law_texts ?l__law_texts ?c__law_texts ?k__law_texts ?a_game_read ?l_game_read ?c_game_read ?k_game_read ?a_put_tree ?l_put_tree ?c_put_tree ?k_put_tree ?a_read ?l_read ?c_read ?k_read ?a__law_number ?l__law_number ?c__law_number ?k__law_number ?a__law_walked ?l__law_walked ?c__law_walked ?k__law_walked ?a_law ?l_law ?c_law ?k_law ?a_side_read ?l_side_read ?c_side_read ?k_side_read ?pgCB ?hdCB ?poCB ?saCB ?mkCB ?kcCB ?nCB_moves ?nCB_numbers ?nCB_depths ?xxCE ?xkCE ?xbCE ?xtCE ?xxCT ?xkCT ?xbCT ?xtCT ?aDP ?z_len ?z_range ?z_sorted ?z_set ?z_tuple ?z_list ?z_isinstance ?z_int ?z_bool ?z_str ?z_max ?z_min ?z_ValueError
    (case aCB => k_is)
    (case aCE => k_is)
    (case aCT => k_is)
    (case a_Book_need => k_is)
    (case i_Book_need => k_is)
    (case l_Book_need => k_is)
    (case c_Book_need => k_is)
    (case k_Book_need => k_is)
    (case a_Book_lefts => k_is)
    (case i_Book_lefts => k_is)
    (case l_Book_lefts => k_is)
    (case c_Book_lefts => k_is)
    (case k_Book_lefts => k_is)
    (case a_Book_rights => k_is)
    (case i_Book_rights => k_is)
    (case l_Book_rights => k_is)
    (case c_Book_rights => k_is)
    (case k_Book_rights => k_is)
    (case a_Book_depth => k_is)
    (case i_Book_depth => k_is)
    (case l_Book_depth => k_is)
    (case c_Book_depth => k_is)
    (case k_Book_depth => k_is)
    (case a_Book_many => k_is)
    (case i_Book_many => k_is)
    (case l_Book_many => k_is)
    (case c_Book_many => k_is)
    (case k_Book_many => k_is)
    (case a_Book_game => k_is)
    (case i_Book_game => k_is)
    (case l_Book_game => k_is)
    (case c_Book_game => k_is)
    (case k_Book_game => k_is)
    (case a_Book_init => k_is)
    (case i_Book_init => k_is)
    (case l_Book_init => k_is)
    (case c_Book_init => k_is)
    (case k_Book_init => k_is)
    (case a_reached => k_is)
    (case l_reached => k_is)
    (case c_reached => k_is)
    (case k_reached => k_is)
    (case a_show => k_is)
    (case l_show => k_is)
    (case c_show => k_is)
    (case k_show => k_is)
    (case a__law_cell => k_is)
    (case l__law_cell => k_is)
    (case c__law_cell => k_is)
    (case k__law_cell => k_is)
    (case a__law_store => k_is)
    (case l__law_store => k_is)
    (case c__law_store => k_is)
    (case k__law_store => k_is)
    (case a__law_take => k_is)
    (case l__law_take => k_is)
    (case c__law_take => k_is)
    (case k__law_take => k_is)
    (case a__law_games => k_is)
    (case l__law_games => k_is)
    (case c__law_games => k_is)
    (case k__law_games => k_is)
    (case a__law_put => k_is)
    (case l__law_put => k_is)
    (case c__law_put => k_is)
    (case k__law_put => k_is)
    (case a__law_more => k_is)
    (case l__law_more => k_is)
    (case c__law_more => k_is)
    (case k__law_more => k_is)
    (case a__law_listed => k_is)
    (case l__law_listed => k_is)
    (case c__law_listed => k_is)
    (case k__law_listed => k_is)
    (case a__law_texts => k_is)
    (case l__law_texts => k_is)
    (case c__law_texts => k_is)
    (case k__law_texts => k_is)
    (case a_game_read => k_is)
    (case l_game_read => k_is)
    (case c_game_read => k_is)
    (case k_game_read => k_is)
    (case a_put_tree => k_is)
    (case l_put_tree => k_is)
    (case c_put_tree => k_is)
    (case k_put_tree => k_is)
    (case a_read => k_is)
    (case l_read => k_is)
    (case c_read => k_is)
    (case k_read => k_is)
    (case a__law_number => k_is)
    (case l__law_number => k_is)
    (case c__law_number => k_is)
    (case k__law_number => k_is)
    (case a__law_walked => k_is)
    (case l__law_walked => k_is)
    (case c__law_walked => k_is)
    (case k__law_walked => k_is)
    (case a_law => k_is)
    (case l_law => k_is)
    (case c_law => k_is)
    (case k_law => k_is)
    (case a_side_read => k_is)
    (case l_side_read => k_is)
    (case c_side_read => k_is)
    (case k_side_read => k_is)
    (case pgCB => k_is)
    (case hdCB => k_is)
    (case poCB => k_is)
    (case saCB => k_is)
    (case mkCB => k_is)
    (case kcCB => k_is)
    (case nCB_moves => k_is)
    (case nCB_numbers => k_is)
    (case nCB_depths => k_is)
    (case xxCE => k_exc)
    (case xkCE => k_is)
    (case xbCE => k_is)
    (case xtCE => k_is)
    (case xxCT => k_exc)
    (case xkCT => k_is)
    (case xbCT => k_is)
    (case xtCT => k_is)
    (case aDP => k_is)
    (case z_len => k_is)
    (case z_range => k_is)
    (case z_sorted => k_is)
    (case z_set => k_is)
    (case z_tuple => k_is)
    (case z_list => k_is)
    (case z_isinstance => k_is)
    (case z_int => k_is)
    (case z_bool => k_is)
    (case z_str => k_is)
    (case z_max => k_is)
    (case z_min => k_is)
    (case z_ValueError => k_is)
#print axioms PySem.Challenge.cw_hotmoves_k81_read_back_holds

