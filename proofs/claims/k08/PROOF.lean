import PyProof.Rows.All
import Wide.All
import OpenK.AllK
import Wide.FinOn
import HandS.ForMost
import HandS.Zip
import HandS.Walk
import KE.GoesEnum
import KE.GoesZip
import HandS.SortOrd
import HandS.SortRule
import HandS.Strs
import HandS.SetFor
import KE.GoesMore
import HandS.ForExc
import HandS.TupAny
import HandS.ExcOwn
import HandS.WordsExc
import HandS.HeadWalk
import HandS.Property
import HandS.Deep
import HandS.IsInst
import HandS.WideBits
import HandS.FStr
import HandS.Flow
import HandS.Comp
import HandS.List
import HandS.Small
import HandS.Style
import HandS.Defaults
import HandS.ExcIs
import HandS.TryMany
import HandS.Head0
import HandS.Head1
import HandS.Head2
import HandS.HeadEnd
import HandS.HeadHook1
import HandS.HeadHook2
import KE.OsArith
import KE.BitLaws
import PySem.Challenge.RW_raisedwreck_k08_going_back
set_option Elab.async false
set_option linter.all false
set_option maxRecDepth 100000
set_option Elab.async false
set_option linter.all false
set_option maxRecDepth 100000
set_option maxHeartbeats 2000000
/-! PdX1: enumerate of a tuple. -/
namespace PySem
open Sem (wp)
theorem meets_enumerate_newB1 {v : Value} {o : Obj} {H : Heap → Prop} (B : Begins v o H) :
    Meets (Builtin.«enumerate.__new__» ⟨[.type "enumerate", v], []⟩) (fun _ R s => H s.heap ∧
      R (.ok (.ret (.ref (s.heap.push o).objs.size))) { s with heap := (s.heap.push o).push { cls := .type "enumerate", data := .fields #[.none, .bool false, .ref s.heap.objs.size, rawInt 0, .none, .none] } }) :=
  .of_wp fun prog w A R s h => by
    obtain ⟨hp, g, d, tk, os⟩ := s; obtain ⟨h1, h⟩ := h
    have hsub := sub_enumerate
    have q1 : ∀ {A' : Around} {E : Value → Shared → Prop} {Q : Value → Shared → Prop}, Q (.ref hp.objs.size) ⟨hp.push o, g, d, tk, os⟩ → wpAny (model prog w) A' (pyIter v) Q E ⟨hp, g, d, tk, os⟩ :=
      fun q => B.iter prog w _ _ ⟨hp, g, d, tk, os⟩ _ h1 q
    wp_walk
    refine wpAny_stack_any fun st => wpAny_pure ?_
    split
    · rename_i c _ _ _ _ _
      cases (c == Value.type "enumerate")
      · wp_walk using q1
        exact ⟨_, rfl, h⟩
      · wp_walk using q1
        exact ⟨_, rfl, h⟩
    · wp_walk using q1
      exact ⟨_, rfl, h⟩
section
variable {prog : Program} {w : World} {A : Around} {E : Value → Shared → Prop} {s : Shared}
theorem enum_begins1 {v : Value} {o : Obj} {H : Heap → Prop} {Q : Value → Shared → Prop} (B : Begins v o H) (h1 : H s.heap)
    (h : ∀ h', IsEnum h' (s.heap.objs.size + 1) s.heap.objs.size 0 .none → h'.get? s.heap.objs.size = some o → h'.objs.size = s.heap.objs.size + 2 →
      (∀ b o, s.heap.get? b = some o → h'.get? b = some o) → Q (.ref (s.heap.objs.size + 1)) { s with heap := h' }) :
    wpAny (model prog w) A (call (.type "enumerate") [v]) Q E s := by
  refine callType_new F.called_enumerate (by decide) (F.typeCall_enumerate_1 _) (F.newCall_enumerate_1 _) (fun obj => F.args_object_init_2 obj _) F.entry_enumerate_new
    (meets_enumerate_newB1 B) ⟨h1, ?_⟩
  have hz : (s.heap.push o).objs.size = s.heap.objs.size + 1 := Heap.size_push ..
  show _ ∧ _
  rw [hz]
  have he : IsEnum ((s.heap.push o).push { cls := .type "enumerate", data := .fields #[.none, .bool false, .ref s.heap.objs.size, rawInt 0, .none, .none] }) (s.heap.objs.size + 1) s.heap.objs.size 0 .none := by
    have := Heap.get?_push_size (s.heap.push o) (o := { cls := .type "enumerate", data := .fields #[.none, .bool false, .ref s.heap.objs.size, rawInt 0, .none, .none] }) rfl
    rw [hz] at this; exact this
  refine ⟨⟨_, he, rfl⟩, h _ he (Heap.get?_push_of_some _ (Heap.get?_push_size _ B.free)) (by rw [Heap.size_push, hz]) fun b o x => Heap.get?_push_of_some _ (Heap.get?_push_of_some _ x)⟩
end
end PySem

namespace L2
open PySem PySem.Spec PyProof.Rows
/-- the tuple at a, its items with their places in new pairs -/
def IteT (K : PySem.W.Frag) (a : Addr) : It :=
  ⟨fun i H => ∃ (xs : List V) (x : V), SqT K H a xs ∧ xs[i]? = some x, fun i H v H' => ∃ T x, v = .ref T ∧ H T = none ∧ H' = upd H T (.tup [.int (i : Nat), x]) ∧ ∀ xs, SqT K H a xs → xs[i]? = some x, fun i H => ∃ xs : List V, SqT K H a xs ∧ xs.length ≤ i⟩
theorem turn_enumT {P : Program} {w : World} {K : PySem.W.Frag} {elts : List Expr} {kk : Nat} {tpos : Pos} (a e it : Addr) :
    Turn P w K (.Tuple elts kk tpos) (IteT K a) [e, it] e (fun i h => (∃ old, IsEnum h e it ((i : Nat) : Int) old) ∧ h.IsTupleIter it a i ∧ e ≠ it ∧ a ≠ it ∧ a ≠ e) where
  mem := by simp
  obj := fun i h st b hb => by
    obtain ⟨⟨old, he⟩, ⟨o, ho, hc, hd⟩, _⟩ := st
    have e' : b = e ∨ b = it := by simpa using hb
    rcases e' with z | z
    · rw [z]; exact ⟨_, he, fun v q => nomatch q⟩
    · rw [z]; exact ⟨o, ho, fun v q => by rw [hd] at q; cases q⟩
  keep := fun i h h' st k => let ⟨⟨old, he⟩, hi, hne⟩ := st; ⟨⟨old, k e (by simp) _ he⟩, hi.at fun o q => k it (by simp) o q, hne⟩
  item := by
    intro X hP hw hK hc i pins s σ H E I hf st hg
    subst hP hw hK
    obtain ⟨⟨old, he⟩, hit, hne, hai, hae⟩ := st
    obtain ⟨xs, x, hq, hx⟩ := hg
    obtain ⟨its, rv, p, hz⟩ := I.tuple hq
    obtain ⟨u, hu, ru⟩ := rv.get hx
    have hel : e < s.heap.objs.size := Heap.lt_size he
    have hil : it < s.heap.objs.size := by obtain ⟨_, q, _⟩ := hit; exact Heap.lt_size q
    have hlt : i < its.toArray.size := by
      have := (List.getElem?_eq_some_iff.mp hu).1
      simpa using this
    refine wpAny_pyNext_enum_itemD (PySem.Draws.tuple (A := X.A.in1) (show X.A.in1.handled = none from I.ok.hd hc) it a hai its.toArray) he ⟨hit, p⟩ hlt hne (by simp [hne, Ne.symm hae]) fun x' h' tk hx' ho st' hT hsz hk => ?_
    have ex : x' = u := by
      have h1 : its.toArray[i]? = some x' := hx'
      have h2 : its.toArray[i]? = some u := by simpa using hu
      rw [h2] at h1
      exact (Option.some.inj h1).symm
    subst ex
    refine ⟨_, rfl, wpAny_letOwnedTupleGo_enum (s := { s with heap := h', toks := tk + 1 }) ho fun h'' he' sb => ?_⟩
    have hT2 : h''.get? s.heap.objs.size = some { cls := .type "tuple", data := .seq #[.int i tk, x'] } := (sb.2 _ (Nat.ne_of_gt hel)).trans hT
    have new : ObjOk X.prog X.w (upd H s.heap.objs.size (.tup [.int (i : Nat), x])) h'' s.heap.objs.size (.tup [.int (i : Nat), x]) :=
      ⟨by show 2 ≤ sizeLine; decide, [.int i tk, x'], .cons ⟨_, rfl⟩ (.cons ru .nil), ⟨_, hT2, rfl, _, rfl⟩⟩
    have I1 : Inv X pins σ (upd H s.heap.objs.size (.tup [.int (i : Nat), x])) { s with heap := h'', toks := tk + 1 } :=
      I.turnedNew (ch := [e, it]) (fun b ob hb q => (sb.2 b (fun z => hb (by simp [z]))).trans (hk b ob (fun z => hb (by simp [z])) (fun z => hb (by simp [z])) q)) hf (Nat.le_refl _) new
    refine ⟨.ref s.heap.objs.size, _, I1, rfl, ⟨_, x, rfl, I.hok.fresh (Nat.le_refl _), rfl, fun ys hy => by rw [I.tuple_inj hy hq]; exact hx⟩, ⟨⟨x', ?_⟩, st'.1.at fun o q => (sb.2 it (Ne.symm hne)).trans q, hne, hai, hae⟩, fun b hb => ?_⟩
    · have e1 : ((i + 1 : Nat) : Int) = (i : Int) + 1 := by omega
      rw [e1]; exact he'
    · have hb' : b < s.heap.objs.size := by
        have e' : b = e ∨ b = it := by simpa using hb
        rcases e' with z | z
        · rw [z]; exact hel
        · rw [z]; exact hil
      rw [upd_ne (Nat.ne_of_lt hb')]
      exact (hf b hb).1
  done := by
    intro X hP hw hK hc i pins s σ H E I hf st hg
    subst hP hw hK
    obtain ⟨⟨old, he⟩, hit, hne, hai, hae⟩ := st
    obtain ⟨xs, hq, hx⟩ := hg
    obtain ⟨its, rv, p, hz⟩ := I.tuple hq
    obtain ⟨f0, f1, f2, f3, f4, f5⟩ := hf it (by simp)
    have hl := rv.length
    have D : Draws X.prog X.w X.A.in1 it [it, a] i (fun _ _ => True) (fun k h => k = i ∧ h.IsTupleIter it a k ∧ h.IsTuple a its.toArray) :=
      { live := fun _ _ st => let ⟨o, ho, _⟩ := st.2.1; ⟨o, ho⟩
        frame := fun _ _ _ st hk => ⟨st.1, st.2.1.at fun o e => hk it (by simp) o e, st.2.2.at fun o e => hk a (by simp) o e⟩
        item := fun k s Q E hk st => absurd st.1 (by omega)
        done := fun s Q E st hE => wpAny_nextOf_tuple_end (show X.A.in1.handled = none from I.ok.hd hc) st.2.1 st.2.2 (by simp; omega) hE }
    exact wpAny_pyNext_enum_endD D he ⟨rfl, hit, p⟩ fun h' eb => ⟨rfl, I.turned (t' := s.toks) (fun b o hb q => eb b o hb q) f0 f1 f3 f4 f5⟩
  self := fun A i s Q E st h => let ⟨⟨_, he⟩, _⟩ := st; wpAny_pyIter_enum he h
def iEnumT (K : PySem.W.Frag) (ta : TA) : TI := fun σ H R => ta σ H fun vs H1 => ∃ a xs, vs = [.ref a] ∧ SqT K H1 a xs ∧ R (IteT K a) H1
theorem pi_enumT {X : Cx} {e : Expr} {ta : TA} {p pos tpos : Pos} {elts : List Expr} {kk : Nat} (hg : Gl X "enumerate") (hm : X.mg "enumerate" = none) (ha : PA X [e] ta) (hs : starEach [e] X.env = [(false, eval e X.env)] := by rfl) :
    PI X (.Tuple elts kk tpos) (.Call (.Name "enumerate" p) [e] [] pos) (iEnumT X.K ta) := by
  refine ⟨fun pins s σ H R I h => ?_⟩
  refine Call_ (ld_blt I hg hm boot_enumerate (PyProof.Rows.callWith_type1 (thn (ha.run pos pins s σ H _ I h) fun us s1 ⟨vs, H1, I1, r1, q1⟩ => ?_) hs rfl))
  obtain ⟨a, xs, ex, hq, q⟩ := q1
  subst ex
  cases r1 with
  | cons r rr =>
    cases rr
    cases r
    obtain ⟨its, rv, p', hz⟩ := I1.tuple hq
    have hal : a < s1.heap.objs.size := by obtain ⟨_, q, _⟩ := p'; exact Heap.lt_size q
    refine enum_begins1 (begins_tuple a its.toArray) p' fun h' he hit hsz hk => wpAny_pyIter_enum he ?_
    have I2 : Inv X pins σ H1 { s1 with heap := h' } := I1.kept (t' := s1.toks) hk
    refine ⟨s1.heap.objs.size + 1, [s1.heap.objs.size + 1, s1.heap.objs.size], _, _, H1, rfl, I2, turn_enumT a (s1.heap.objs.size + 1) s1.heap.objs.size, ⟨⟨.none, he⟩, ⟨_, hit, rfl, rfl⟩, Nat.succ_ne_self _, Nat.ne_of_lt hal, Nat.ne_of_lt (Nat.lt_succ_of_lt hal)⟩, fun b hb => ?_, q⟩
    have e' : b = s1.heap.objs.size + 1 ∨ b = s1.heap.objs.size := by simpa using hb
    have hle : s1.heap.objs.size ≤ b := by
      rcases e' with z | z
      · rw [z]; exact Nat.le_add_right _ _
      · rw [z]; exact Nat.le_refl _
    exact I1.fpOk hle (I1.hok.fresh hle)
theorem walk_enumT {K : PySem.W.Frag} {a : Addr} {xs : List V} : Walk (IteT K a) xs.length (fun H => SqT K H a xs) (YPair (fun i => some (.int (i : Nat))) (fun i => xs[i]?)) := by
  refine ⟨fun i _ hi q => ⟨xs, xs[i], q, by simp [hi]⟩, fun _ q => ⟨xs, q, Nat.le_refl _⟩, fun i H v H' _ q y => ?_⟩
  obtain ⟨T, x, h1, h2, h3, h4⟩ := y
  exact ⟨T, .int (i : Nat), x, h1, h2, h3, rfl, h4 xs q⟩
end L2

set_option Elab.async false
set_option linter.all false
set_option maxRecDepth 100000
set_option maxHeartbeats 2000000
/-! PdX2: sorted of tuples of ints, any number of them, any (not empty) width. -/
namespace SrtO
open PySem PySem.Spec PyProof.Rows L2
/-- one behind another, a shorter one first -/
def lexL : List Int → List Int → Bool
  | [], [] => false
  | [], _ :: _ => true
  | _ :: _, [] => false
  | x :: xs, y :: ys => if x = y then lexL xs ys else decide (x < y)
theorem lexL_asym : ∀ {a b : List Int}, lexL a b = true → lexL b a = false
  | [], [], h => by cases h
  | [], _ :: _, _ => rfl
  | _ :: _, [], h => by cases h
  | x :: xs, y :: ys, h => by
    rw [lexL] at h ⊢
    by_cases e : x = y
    · rw [if_pos e] at h
      rw [if_pos e.symm]
      exact lexL_asym h
    · rw [if_neg e] at h
      rw [if_neg fun q => e q.symm]
      have := of_decide_eq_true h
      exact decide_eq_false (by omega)
theorem lexL_trans : ∀ {a b c : List Int}, lexL a b = false → lexL b c = false → lexL a c = false
  | [], [], c, _, h => h
  | [], _ :: _, _, h, _ => by cases h
  | _ :: _, [], [], _, _ => rfl
  | _ :: _, [], _ :: _, _, h => by cases h
  | _ :: _, _ :: _, [], _, _ => rfl
  | x :: xs, y :: ys, z :: zs, h, k => by
    rw [lexL] at h k ⊢
    by_cases e : x = y
    · rw [if_pos e] at h
      by_cases f : y = z
      · rw [if_pos f] at k
        rw [if_pos (e.trans f)]
        exact lexL_trans h k
      · rw [if_neg f] at k
        have := of_decide_eq_false k
        rw [if_neg (by omega)]
        exact decide_eq_false (by omega)
    · rw [if_neg e] at h
      have h1 := of_decide_eq_false h
      by_cases f : y = z
      · rw [if_neg (by omega)]
        exact decide_eq_false (by omega)
      · rw [if_neg f] at k
        have h2 := of_decide_eq_false k
        rw [if_neg (by omega)]
        exact decide_eq_false (by omega)
theorem swo_lexL (k : Value → List Int) : Swo fun v u => lexL (k v) (k u) := ⟨fun _ _ h => lexL_asym h, fun _ _ _ h1 h2 => lexL_trans h2 h1⟩
section
variable {prog : Program} {w : World} {A : Around} {E : Value → Shared → Prop} {s : Shared}
/-- a tuple of the ints ns -/
def IsTupI (h : Heap) (v : Value) (ns : List Int) : Prop := ∃ a o n its, v = .ref a ∧ h.get? a = some o ∧ o.cls = .type "tuple" ∧ o.data = .seq its n ∧ Vals (ns.map V.int) its.toList
theorem lex_kat {b fin : Bool} : ∀ {ns ms : List Int} {us vs : List Value} (i : Nat), Vals (ns.map V.int) us → Vals (ms.map V.int) vs → fin = decide (us.length < vs.length) →
    PySem.W.KatLex prog w A b fin (fun q s' => s' = s ∧ q = lexL ns ms) (us.zip vs) i s
  | [], [], us, vs, i, r, q, hf => by
    cases r; cases q
    exact PySem.W.kat_nil ⟨rfl, by rw [hf]; rfl⟩
  | [], m :: ms, us, vs, i, r, q, hf => by
    cases r
    cases q
    exact PySem.W.kat_nil ⟨rfl, by rw [hf]; simp [lexL]⟩
  | n :: ns, [], us, vs, i, r, q, hf => by
    cases q
    cases r
    exact PySem.W.kat_nil ⟨rfl, by rw [hf]; simp [lexL]⟩
  | n :: ns, m :: ms, us, vs, i, r, q, hf => by
    cases r with
    | cons r1 r2 =>
      cases q with
      | cons q1 q2 =>
        obtain ⟨t, rfl⟩ := r1
        obtain ⟨u, rfl⟩ := q1
        refine PySem.W.kat_cons (SeqAt.EqAt.int_int n t m u prog w _ _ ?_)
        refine PySem.W.kat_go (fun e1 => ?_) (fun e1 => ?_)
        · have ex : n = m := by simpa using e1
          have e3 : lexL (n :: ns) (m :: ms) = lexL ns ms := by rw [lexL, if_pos ex]
          rw [e3]
          exact PySem.W.kat_yes (lex_kat (i + 1) r2 q2 (by rw [hf]; simp))
        · have ex : ¬ n = m := by simpa using e1
          have e3 : lexL (n :: ns) (m :: ms) = decide (n < m) := by rw [lexL, if_neg ex]
          rw [e3]
          exact PySem.W.kat_no (TS.oneLt_ints _ ⟨rfl, rfl⟩)
theorem tupI_cmp {vs : List Value} {k : Value → List Int} (hp : ∀ v ∈ vs, IsTupI s.heap v (k v)) : Cmp prog w A s (tuples' true) (fun p => p.1 ∈ vs) (lt2 fun v u => lexL (k v) (k u)) := by
  intro p q hm hm'
  have h1 := hp _ hm
  have h2 := hp _ hm'
  show wpAny (model prog w) A (keyLt' (tuples' true) p.1 q.1) (fun r s' => s' = s ∧ r = lexL (k p.1) (k q.1)) (fun _ _ => False) s
  obtain ⟨a, o, n, its, e, ho, hc, hd, r1⟩ := h1
  obtain ⟨a', o', n', its', e', ho', hc', hd', r2⟩ := h2
  rw [e, e'] at *
  exact PySem.W.kat_lt ho hd ho' hd' (lex_kat 0 r1 r2 (by simp))
theorem firsts_tupI {h : Heap} : ∀ {vs : List Value} {k : Value → List Int}, (∀ v ∈ vs, IsTupI h v (k v) ∧ k v ≠ []) → ∃ fs : List Value, PySem.W.KatTups h vs fs ∧ fs.length = vs.length ∧ ∀ f ∈ fs, ∃ x t, f = Value.int x t
  | [], k, _ => ⟨[], PySem.W.KatTups.nil, rfl, fun _ hm => by simp at hm⟩
  | v :: vs, k, hp => by
    obtain ⟨fs, h1, h2, h3⟩ := firsts_tupI (vs := vs) (k := k) fun v' hm => hp v' (List.mem_cons_of_mem _ hm)
    obtain ⟨⟨a, o, n, its, e, ho, hc, hd, r⟩, hne⟩ := hp v (List.mem_cons_self ..)
    obtain ⟨x, xs, hk⟩ : ∃ x xs, k v = x :: xs := by
      cases q : k v with
      | nil => exact (hne q).elim
      | cons x xs => exact ⟨x, xs, rfl⟩
    rw [hk] at r
    obtain ⟨l⟩ := its
    cases r with
    | cons r1 r2 =>
      obtain ⟨t, rfl⟩ := r1
      subst e
      refine ⟨.int x t :: fs, PySem.W.KatTups.cons ho hc hd rfl h1, by rw [List.length_cons, List.length_cons, h2], fun f hm => ?_⟩
      rcases List.mem_cons.mp hm with rfl | hm
      · exact ⟨x, t, rfl⟩
      · exact h3 f hm
theorem IsTupI.keeps {h h' : Heap} {v : Value} {ns : List Int} (x : IsTupI h v ns) (k : ∀ b o, h.get? b = some o → o.cls = .type "tuple" → h'.get? b = some o) : IsTupI h' v ns := by
  obtain ⟨a, o, n, its, e, ho, hc, hd, r⟩ := x
  exact ⟨a, o, n, its, e, k a o ho hc, hc, hd, r⟩
theorem tupI_sortableO {a : Addr} {vs : List Value} {k : Value → List Int} (h0 : 0 < vs.length) (hp : ∀ v ∈ vs, IsTupI s.heap v (k v) ∧ k v ≠ []) (ha : ∀ o, s.heap.get? a = some o → o.cls ≠ .type "tuple") : SortableO prog w A s a vs fun v u => lexL (k v) (k u) := by
  intro h' keep
  have hp' : ∀ v ∈ vs, IsTupI h' v (k v) ∧ k v ≠ [] := fun v hm => ⟨(hp v hm).1.keeps fun b o e c => keep b o (fun z => by subst z; exact ha o e c) e, (hp v hm).2⟩
  obtain ⟨fs, h1, h2, h3⟩ := firsts_tupI hp'
  refine ⟨tuples' true, fun Q E hq => ?_, tupI_cmp fun v hm => (hp' v hm).1⟩
  refine PySem.W.kat_kind (T := .type "int") h1 (by omega) (fun f hm => ?_) (by rfl) ?_
  · obtain ⟨x, t, rfl⟩ := h3 f hm
    exact PySem.W.Looks.now
  · have e : (Value.type "int" != Value.type "tuple") = true := by first | decide +kernel | rfl | decide
    rw [e]
    exact hq
theorem sorted_tupI {l : Addr} {vs : List Value} {k : Value → List Int} {Q : Value → Shared → Prop} (hl : s.heap.IsList l vs.toArray) (hz : vs.length ≤ sizeLine) (hp : ∀ v ∈ vs, IsTupI s.heap v (k v) ∧ k v ≠ [])
    (h : ∀ (h' : Heap) (d : Addr) (out : List Value), Srtd (fun v u => lexL (k v) (k u)) out → Stb (fun v u => lexL (k v) (k u)) out vs → (∀ b o, s.heap.get? b = some o → h'.get? b = some o) → s.heap.objs.size ≤ d → (∃ n, h'.get? d = some (seqObj "list" out.toArray n)) → Q (.ref d) { s with heap := h' }) :
    wpAny (model prog w) A (call (.builtin "sorted") [.ref l]) Q E s := by
  refine sorted_ord (swo_lexL k) hl hz (fun h2 h₁ a ha kk => ?_) fun out hs hb => ?_
  · refine tupI_sortableO (s := { s with heap := h₁ }) (by omega) (fun v hm => ⟨(hp v hm).1.keeps fun b o e _ => (kk b o e).2, (hp v hm).2⟩) fun o e => ?_
    have e' : some o = some (seqObj "list" vs.toArray 0) := e.symm.trans ha
    cases e'
    intro c
    exact absurd (Value.type.inj c) (by decide)
  · exact h _ _ out hs hb (fun b o e => sortedAll_old e) (Nat.le_succ _) (sortedAll_at s.heap vs out.toArray)
end
end SrtO

namespace L2
open PySem PySem.Spec PyProof.Rows
abbrev ltT (k : V → List Int) : V → V → Bool := fun x y => SrtO.lexL (k x) (k y)
theorem ltT_swo (k : V → List Int) : SrtO.Swo (ltT k) := ⟨fun _ _ h => SrtO.lexL_asym h, fun _ _ _ h1 h2 => SrtO.lexL_trans h2 h1⟩
/-- sorted(xs), xs a list of tuples of ints (not empty) -/
def rSortedTI (K : PySem.W.Frag) : List V → Hp → VK → Prop := fun vs H Q => ∃ (a : Addr) (xs : List V) (k : V → List Int), vs = [V.ref a] ∧ SqL K H a xs ∧ (∀ x ∈ xs, (∃ t, x = V.ref t ∧ H t = some (.tup ((k x).map V.int))) ∧ k x ≠ []) ∧
  ∀ ys p, SrtO.Srtd (ltT k) ys → SrtO.Stb (ltT k) ys xs → H p = none → Q (.ref p) (upd H p (.lst ys))
section
variable {X : Cx}
theorem cr_sortedTI : CallR X (.builtin "sorted") (rSortedTI X.K) := by
  intro pins s σ H vs us Q I r h
  obtain ⟨a, xs, k, rfl, hs, hx, q⟩ := h
  obtain ⟨its, rv, hl, hz⟩ := I.list hs
  obtain ⟨u, rfl, ru⟩ := vals1 r
  obtain rfl : u = Value.ref a := ru
  obtain ⟨e1, e2⟩ := refs_back rv fun x m => by
    obtain ⟨⟨t, e, _⟩, _⟩ := hx x m
    exact ⟨t, e⟩
  refine SrtO.sorted_tupI (k := fun u => k (backV u)) hl.isList (by rw [← rv.length]; exact hz) (fun v hv => ?_) fun h' d out h1 h2 kp hd hn => ?_
  · obtain ⟨t, rfl⟩ := e2 v hv
    have hm : V.ref t ∈ xs := by rw [e1]; exact List.mem_map.mpr ⟨_, hv, rfl⟩
    obtain ⟨⟨t', e, ht⟩, hne⟩ := hx _ hm
    cases e
    obtain ⟨_, its2, r2, o, ho, hc, n, hd⟩ := I.hok _ _ ht
    exact ⟨⟨t, o, n, its2.toArray, rfl, ho, hc, hd, (show Vals ((k (V.ref t)).map V.int) its2.toArray.toList from by simpa using r2)⟩, hne⟩
  · have h3 : ∀ u ∈ out, ∃ a, u = Value.ref a := fun u hu => e2 u (h2.perm.mem_iff.mp hu)
    obtain ⟨n, hn⟩ := hn
    have hb : SrtO.Stb (ltT k) (out.map backV) xs := by
      rw [e1]
      exact SrtO.Stb.map (ltT_swo k) backV h2
    refine ⟨.ref d, upd H d (.lst (out.map backV)), I.laid (t' := s.toks) kp hd ⟨?_, out, n, vals_back h3, hn⟩, rfl, q _ d (SrtO.srtd_map h1) hb (I.hok.fresh hd)⟩
    rw [hb.len]
    exact hz
end
end L2

set_option Elab.async false
set_option linter.all false
set_option maxRecDepth 100000
set_option maxHeartbeats 3200000
/-! PdX4: len(set(texts)) of a list of texts, any number of them. -/
namespace PdSet
open PySem PySem.Spec PyProof.Rows
/-- how many unlike ones -/
def cntU {α : Type} [DecidableEq α] : List α → Nat
  | [] => 0
  | x :: xs => if x ∈ xs then cntU xs else cntU xs + 1
theorem cntU_le {α : Type} [DecidableEq α] : ∀ xs : List α, cntU xs ≤ xs.length
  | [] => Nat.le_refl _
  | x :: xs => by
    have := cntU_le xs
    rw [cntU, List.length_cons]
    split <;> omega
theorem cntU_snoc {α : Type} [DecidableEq α] (y : α) : ∀ xs : List α, cntU (xs ++ [y]) = if y ∈ xs then cntU xs else cntU xs + 1
  | [] => by simp [cntU]
  | x :: xs => by
    rw [List.cons_append, cntU, cntU, cntU_snoc y xs]
    by_cases h1 : x = y
    · subst h1
      simp
    · have h2 : ¬ y = x := fun e => h1 e.symm
      simp only [List.mem_append, List.mem_singleton, List.mem_cons, h1, h2, or_false, false_or]
      by_cases h3 : x ∈ xs <;> by_cases h4 : y ∈ xs <;> simp [h3, h4]
section
variable {P : Program} {w : World} {A : Around} {E : Value → Shared → Prop} {R : Result → Shared → Prop} {s : Shared}
theorem fill_txt {I : Addr} {fp wr : List Addr} {G : Array GenState → Array GenState → Prop} {n : Nat} {Pv : Nat → Value → Prop} {St : Nat → Shared → Prop}
    (W : WalksS P w A.in1 I fp wr G n Pv St) (C : Addr) (hC : C ∉ fp) (xs : List Str) (hn : n = xs.length) (hb : xs.length + 1 < scanBound) (hv : ∀ i v, Pv i v → ∃ y t, xs[i]? = some y ∧ v = .str y t) :
    ∀ (k i : Nat) (s : Shared), n - i = k → i ≤ n → St i s → s.heap.SetOf (PySem.strKind P w) C (fun y => decide (y ∈ xs.take i)) (cntU (xs.take i)) →
      (∀ z, Moved (C :: wr) G s z → z.heap.SetOf (PySem.strKind P w) C (fun y => decide (y ∈ xs)) (cntU xs) → R (.ok (.ret .none)) z) →
      codeAny (model P w) A (.builtin "set.update.loop" ⟨[.ref C, .ref I], []⟩) R s := by
  have Cw : C ∉ wr := fun h => hC (W.sub _ h)
  have more : ∀ b ∈ wr, b ∈ C :: wr := fun b h => List.mem_cons_of_mem _ h
  intro k
  induction k with
  | zero =>
    intro i s e0 le st S0 fin
    obtain rfl : i = n := by omega
    refine codeAny_builtin PyProof.Rows.F.entry_set_update_loop ?_
    rw [Around.under_plainId PyProof.Rows.F.plain_set_update_loop _]
    show wpAny _ A.in1 (pyNext (.ref I) >>= _) _ _ s
    refine wpAny_bind (W.done s _ _ st fun z mv => ?_)
    show wpAny _ A.in1 (ret Value.none) _ _ z
    rw [List.take_of_length_le (by omega)] at S0
    obtain ⟨o, es, ep, t, ho, rest⟩ := S0
    exact wpAny_pure (fin z (mv.mono more) ⟨o, es, ep, t, mv.heap C o Cw ho, rest⟩)
  | succ k ih =>
    intro i s e0 le st S0 fin
    have lt : i < n := by omega
    refine codeAny_builtin PyProof.Rows.F.entry_set_update_loop ?_
    rw [Around.under_plainId PyProof.Rows.F.plain_set_update_loop _]
    show wpAny _ A.in1 (pyNext (.ref I) >>= _) _ _ s
    refine wpAny_bind (W.item i s _ _ lt st fun v z pv st1 mv => ?_)
    obtain ⟨y, t, hy, rfl⟩ := hv i v pv
    have S1 : z.heap.SetOf (PySem.strKind P w) C (fun y => decide (y ∈ xs.take i)) (cntU (xs.take i)) := by
      obtain ⟨o, es, ep, t, ho, rest⟩ := S0
      exact ⟨o, es, ep, t, mv.heap C o Cw ho, rest⟩
    show wpAny _ A.in1 (holding [Value.str y t] (setAdd C (.str y t)) >>= _) _ _ z
    refine wpAny_bind (wpAny_holding ?_)
    unfold setAdd
    refine wpAny_holding (wpAny_bind ((PySem.strKind P w).pyHash (k := y) (strKind_is _ _ _ _) ?_))
    have few : cntU (xs.take i) + 1 < scanBound := by
      have h1 := cntU_le (xs.take i)
      have h2 : (xs.take i).length ≤ xs.length := by simp; omega
      omega
    refine wpAny_setAddHashed_of (knd := PySem.strKind P w) (s := { z with toks := z.toks + 1 }) (strKind_is _ _ _ _) rfl S1 few fun h2 sb S2 => ?_
    have tk : xs.take (i + 1) = xs.take i ++ [y] := by rw [List.take_add_one, hy]; rfl
    have S3 : h2.SetOf (PySem.strKind P w) C (fun y => decide (y ∈ xs.take (i + 1))) (cntU (xs.take (i + 1))) := by
      refine SetOf_congr S2 (fun u => ?_) ?_
      · rw [tk]
        simp [List.mem_append]
      · rw [tk, cntU_snoc]
        simp
    refine wpAny_pure ⟨plainId_quiet PyProof.Rows.F.plain_set_update_loop _, ih (i + 1) _ (by omega) lt (W.frame _ z _ _ st1 (Nat.le_succ _) fun b hb o e => ?_) S3 fun u mv2 S4 => ?_⟩
    · rw [sb.2 b (fun q => hC (q ▸ hb))]; exact e
    · refine fin u (Moved.trans W.gtrans ((mv.mono more).then_heap (Nat.le_succ _) fun b o hb e => ?_) mv2) S4
      rw [sb.2 b (fun q => hb (q ▸ List.mem_cons_self))]; exact e
/-- the object that set() begins with -/
abbrev emptySet (led : Bool) : Obj := { cls := .type "set", dict := none, data := .set #[] 0 (.fresh 0 0 led) }
theorem txt_at : ∀ {us : List Value} {xs : List Str}, StrsAre us xs → ∀ (i : Nat) (v : Value), us[i]? = some v → ∃ y t, xs[i]? = some y ∧ v = .str y t
  | _, _, .nil, i, v, h => by simp at h
  | _, _, .cons y t r, 0, v, h => ⟨y, t, rfl, by simpa using h.symm⟩
  | _, _, .cons y t r, i + 1, v, h => by
    obtain ⟨z, u, h1, h2⟩ := txt_at r i v (by simpa using h)
    exact ⟨z, u, by simpa using h1, h2⟩
/-- set(xs), xs a list of texts -/
theorem set_of_txts {l : Addr} {items : Array Value} {xs : List Str} {Q : Value → Shared → Prop} (calm : A.handled = none) (isl : s.heap.IsList l items) (are : StrsAre items.toList xs) (few : xs.length + 1 < scanBound)
    (fin : ∀ (h2 : Heap) (tk : Nat), h2.SetOf (PySem.strKind P w) s.heap.objs.size (fun y => decide (y ∈ xs)) (cntU xs) → (∀ b o, b < s.heap.objs.size → s.heap.get? b = some o → h2.get? b = some o) → Q (.ref s.heap.objs.size) { s with heap := h2, toks := tk }) :
    wpAny (model P w) A (call (.type "set") [.ref l]) Q E s := by
  have lenx : xs.length = items.size := by rw [← StrsAre.len_eq are, Array.length_toList]
  obtain ⟨top, rest, isMro⟩ := PySem.F.called_set.mro
  have f1 := PySem.F.called_set.made
  have f2 := PySem.F.called_set.sub
  refine wpAny_call (codeAny_of_tree ?_)
  show wpAny _ _ (callAny (.type "set") _) _ _ _
  refine wpAny_pure ⟨Code.quiet_builtin _ (by decide +kernel), codeAny_builtin PySem.F.entry_type_call ?_⟩
  rw [Around.under_plain (weight_type_call_type "set" [.ref l] []) rfl]
  have f3 := PySem.F.called_set.notType
  have f4 := PySem.F.called_set.canCreate
  have f5 := PySem.F.typeCall_set_1 (.ref l)
  repeat (any_goals (first | assumption | wp_step))
  refine codeAny_mono (code_set_new_1 (.ref l) (E := E) (Q₁ := fun ob z => ∃ led : Bool, ob = .ref s.heap.objs.size ∧ z = { s with heap := s.heap.push (emptySet led) }) fun led => ⟨led, rfl, rfl⟩) fun r z hr => ?_
  rcases r with e | fl
  · exact hr
  cases fl with
  | ret ob =>
    obtain ⟨led, rfl, rfl⟩ := hr
    have atC : (s.heap.push (emptySet led)).get? s.heap.objs.size = some (emptySet led) := Heap.get?_push_size _ rfl
    have tyC : Shared.TypeIs { s with heap := s.heap.push (emptySet led) } (.ref s.heap.objs.size) "set" := ⟨_, atC, rfl⟩
    have f6 := PySem.F.called_set.init.lookup
    have f7 := PySem.F.called_set.init.bind (.ref s.heap.objs.size)
    repeat (any_goals (first | assumption | wp_step))
    refine codeAny_mono (codeAny_call_builtin (R := wants (fun r u => r = .none ∧ ∃ h2 tk, u = { s with heap := h2, toks := tk } ∧ h2.SetOf (PySem.strKind P w) s.heap.objs.size (fun y => decide (y ∈ xs)) (cntU xs) ∧
        (∀ b o, b < s.heap.objs.size → s.heap.get? b = some o → h2.get? b = some o)) E) PySem.F.called_set.init.plain PySem.F.entry_set_init (check_set_init_1 tyC ?_)) fun r2 u hr2 => ?_
    · obtain ⟨⟨ocl, odi, oda, osl⟩, atl, c1, nl, c2⟩ := isl
      simp only at c1 c2
      subst c1
      subst c2
      have ltl : l < s.heap.objs.size := Heap.lt_size atl
      have atl2 : (s.heap.push (emptySet led)).get? l = some { cls := .type "list", dict := odi, data := .seq items nl, slots := osl } := Heap.get?_push_of_some _ atl
      have f8 := PySem.F.sub_list_set
      have f9 := PySem.F.sub_list_frozenset
      have f10 : (Value.type "list" == Value.type "dict") = false := by decide
      have isl2 : (s.heap.push (emptySet led)).IsList l items := ⟨_, atl2, rfl, nl, rfl⟩
      unfold Builtin.«set.__init__» noKeywords Builtin.Frozenset.updateFrom
      generalize keep : pyIter = kept
      wp_walk
      subst keep
      refine wpAny_pyIter_list isl2 (wpAny_bind (wpAny_runValue ?_))
      have sz : (s.heap.push (emptySet led)).objs.size = s.heap.objs.size + 1 := Heap.size_push ..
      have calm3 : A.in1.in1.in1.handled = none := by simp [calm]
      have l_ne : l ≠ (s.heap.push (emptySet led)).objs.size := by rw [sz]; exact Nat.ne_of_lt (Nat.lt_succ_of_lt ltl)
      have C_out : s.heap.objs.size ∉ [(s.heap.push (emptySet led)).objs.size, l] := by
        intro q
        rcases List.mem_cons.mp q with q | q
        · rw [sz] at q
          exact absurd q (Nat.ne_of_lt (Nat.lt_succ_self _))
        · exact absurd (List.mem_singleton.mp q) (Nat.ne_of_gt ltl)
      refine fill_txt ((Walks.list calm3 _ l l_ne items).toS) s.heap.objs.size C_out xs (by omega) few (fun i v q => txt_at are i v (by rw [Array.getElem?_toList]; exact q)) (items.size - 0) 0 _ rfl (Nat.zero_le _) ⟨⟨_, Heap.get?_push_size _ rfl, rfl, rfl⟩, isl2.push _⟩ ?S0 ?done
      case S0 =>
        have atC2 : ((s.heap.push (emptySet led)).push { cls := .type "list_iterator", data := .fields #[.ref l, .int 0 0] }).get? s.heap.objs.size = some (emptySet led) := Heap.get?_push_of_some _ atC
        exact SetOf_congr ((setObjOf_fresh (knd := PySem.strKind P w) led).setOf atC2 (by decide)) (fun _ => by simp) rfl
      case done =>
        rintro ⟨h2, g2, d2, t2, o2⟩ mv S2
        obtain rfl : g2 = s.gens := mv.gens
        obtain rfl : d2 = s.drawn := mv.drawn
        obtain rfl : o2 = s.os := mv.os
        show wpAny _ _ _ _ _ _
        refine wpAny_pure ?_
        show wpAny _ _ (ret Value.none) _ _ _
        refine wpAny_pure ⟨rfl, h2, t2, rfl, S2, fun b o lt e => mv.heap b o (fun q => ?_) (Heap.get?_push_of_some _ (Heap.get?_push_of_some _ e))⟩
        rcases List.mem_cons.mp q with q | q
        · exact absurd q (Nat.ne_of_lt lt)
        · have q := List.mem_singleton.mp q
          rw [sz] at q
          exact absurd q (Nat.ne_of_lt (Nat.lt_succ_of_lt lt))
    · rcases r2 with e | fl2
      · exact hr2
      cases fl2 with
      | ret r =>
        obtain ⟨rfl, h2, tk, rfl, S2, kp⟩ := hr2
        repeat (any_goals (first | assumption | wp_step))
        exact fin _ _ S2 kp
      | _ => exact hr2.elim
  | _ => exact hr.elim
end
end PdSet
namespace PdSet
open PySem PySem.Spec PyProof.Rows L2
section
variable {X : Cx}
theorem strs_of : ∀ {ys : List Str} {us : List Value}, Vals (ys.map V.str) us → StrsAre us ys
  | [], _, .nil => .nil
  | y :: ys, _, .cons r t => by
    obtain ⟨k, rfl⟩ := r
    exact .cons y k (strs_of t)
/-- len(set(xs)) of a list of texts -/
def tLenTxt (K : PySem.W.Frag) (ta : TE) : TE := fun σ H Q => ta σ H fun x H1 => ∃ l, ∃ xs : List Str, x = .ref l ∧ SqL K H1 l (xs.map V.str) ∧ xs.length ≤ 1000 ∧ Q (.int (cntU xs : Nat)) H1
theorem pe_lenTxt {a : Expr} {ta : TE} {p p2 q pos : Pos} (hc : X.calm = true) (hg : Gl X "len") (hm : X.mg "len" = none) (hg2 : Gl X "set") (hm2 : X.mg "set" = none) (ha : PE X a ta)
    (na : starEach [a] X.env = (false, eval a X.env) :: starEach [] X.env) : PE X (.Call (.Name "len" p) [.Call (.Name "set" p2) [a] [] q] [] pos) (tLenTxt X.K ta) := by
  refine ⟨fun pins s σ H Q I h => Call_ (ld_blt I hg hm boot_len (callWith_builtin1 (args_cons ?_ rfl) rfl rfl))⟩
  refine Call_ (ld_blt I hg2 hm2 boot_set (callWith_type1 (args_cons (thn (ha.run pins s σ H _ I h) fun v s1 ⟨x, H1, I1, r1, q1⟩ => args_nil ?_) na) na rfl))
  obtain ⟨l, xs, rfl, hq, few, q1⟩ := q1
  cases r1
  obtain ⟨its, r, pl, hz⟩ := I1.list hq
  refine set_of_txts (I1.ok.hd hc) pl.isList (by simpa using strs_of r) (by unfold scanBound; omega) fun h2 tk hS hk => args_nil ?_
  obtain ⟨o, es, ep, t, ho, hex, hd, _, _, _, hf, hn⟩ := hS
  have I2 : Inv X pins σ H1 { s1 with heap := h2, toks := tk } := I1.kept fun b o e => hk b o (Heap.lt_size e) e
  have := cntU_le xs
  exact call_len_set ho hex hd hf (by rw [hn]; omega) ⟨.int (cntU xs : Nat), H1, I2.tok _, ⟨_, by rw [hn]⟩, q1⟩
end
end PdSet

set_option Elab.async false
set_option linter.all false
set_option maxRecDepth 100000
set_option maxHeartbeats 2000000
/-! PdX5: zip of a list and a tuple. -/
namespace L2
open PySem PySem.Spec PyProof.Rows
/-- a tuple, or a list -/
def SqB (t : Bool) (K : PySem.W.Frag) (H : Hp) (a : Addr) (xs : List V) : Prop := match t with
  | true => SqT K H a xs
  | false => SqL K H a xs
def ItB (t : Bool) (h : Heap) (it a : Addr) (i : Nat) : Prop := match t with
  | true => h.IsTupleIter it a i
  | false => h.IsListIter it a i
def IsB (t : Bool) (h : Heap) (a : Addr) (its : Array Value) : Prop := match t with
  | true => h.IsTuple a its
  | false => h.IsList a its
theorem ItB.at {t : Bool} {h h' : Heap} {it a : Addr} {i : Nat} (x : ItB t h it a i) (k : ∀ o, h.get? it = some o → h'.get? it = some o) : ItB t h' it a i := by
  cases t with
  | true => exact Heap.IsTupleIter.at x k
  | false => exact Heap.IsListIter.at x k
theorem ItB.obj {t : Bool} {h : Heap} {it a : Addr} {i : Nat} (x : ItB t h it a i) : ∃ o, h.get? it = some o ∧ ∀ v, o.data ≠ .cell v := by
  cases t with
  | true => obtain ⟨o, ho, _, hd⟩ := x; exact ⟨o, ho, fun v q => by rw [hd] at q; cases q⟩
  | false => obtain ⟨o, ho, _, hd⟩ := x; exact ⟨o, ho, fun v q => by rw [hd] at q; cases q⟩
theorem sqB_is {t : Bool} {X : Cx} {pins : List (Addr × Obj)} {σ : L2.St} {H : Hp} {s : Shared} (I : Inv X pins σ H s) {a : Addr} {xs : List V} (h : SqB t X.K H a xs) : ∃ its, Vals xs its ∧ IsB t s.heap a its.toArray ∧ a < s.heap.objs.size := by
  cases t with
  | true =>
    obtain ⟨its, rv, p, _⟩ := I.tuple h
    obtain ⟨o, ho, _⟩ := id p
    exact ⟨its, rv, p, Heap.lt_size ho⟩
  | false =>
    obtain ⟨its, rv, p, _⟩ := I.list h
    exact ⟨its, rv, p.isList, p.lt⟩
theorem sqB_inj {t : Bool} {X : Cx} {pins : List (Addr × Obj)} {σ : L2.St} {H : Hp} {s : Shared} (I : Inv X pins σ H s) {a : Addr} {xs ys : List V} (h : SqB t X.K H a xs) (k : SqB t X.K H a ys) : xs = ys := by
  cases t with
  | true => exact I.tuple_inj h k
  | false => exact I.list_inj h k
theorem drawsB (t : Bool) {prog : Program} {w : World} {A : Around} (hh : A.handled = none) (it l : Addr) (hne : l ≠ it) (items : Array Value) :
    Draws prog w A it [it, l] items.size (fun i v => items[i]? = some v) (fun i h => ItB t h it l i ∧ IsB t h l items) := by
  cases t with
  | true => exact Draws.tuple hh it l hne items
  | false => exact Draws.list hh it l hne items
def objB (t : Bool) (a : Addr) : Obj := match t with
  | true => { cls := .type "tuple_iterator", data := .fields #[.ref a, .int 0 0] }
  | false => { cls := .type "list_iterator", data := .fields #[.ref a, .int 0 0] }
theorem beginsB (t : Bool) (a : Addr) (items : Array Value) : Begins (.ref a) (objB t a) fun h => IsB t h a items := by
  cases t with
  | true => exact begins_tuple a items
  | false => exact begins_list a items
theorem itB_begin {t : Bool} {h : Heap} {it a : Addr} (e : h.get? it = some (objB t a)) : ItB t h it a 0 := by
  cases t with
  | true => exact ⟨_, e, rfl, rfl⟩
  | false => exact ⟨_, e, rfl, rfl⟩
def ItzB (t u : Bool) (K : PySem.W.Frag) (a b : Addr) : It :=
  ⟨fun i H => ∃ (xs ys : List V) (x y : V), SqB t K H a xs ∧ SqB u K H b ys ∧ xs[i]? = some x ∧ ys[i]? = some y,
    fun i H v H' => ∃ T x y, v = .ref T ∧ H T = none ∧ H' = upd H T (.tup [x, y]) ∧ (∀ xs, SqB t K H a xs → xs[i]? = some x) ∧ ∀ ys, SqB u K H b ys → ys[i]? = some y,
    fun i H => ∃ xs ys : List V, SqB t K H a xs ∧ SqB u K H b ys ∧ i ≤ xs.length ∧ i ≤ ys.length ∧ (i = xs.length ∨ i = ys.length)⟩
theorem turn_zipB {P : Program} {w : World} {K : PySem.W.Frag} {elts : List Expr} {kk : Nat} {tpos : Pos} {t u : Bool} {a b z TI TO i1 i2 : Addr} (S : ZipSep2 z TI TO i1 i2 [i1, a] [i2, b]) (ha : a ≠ i1) (hb : b ≠ i2) :
    Turn P w K (.Tuple elts kk tpos) (ItzB t u K a b) [z, TI, TO, i1, i2] z (fun i h => IsZip h z TI TO .none ∧ IsTupOf2 h TI (.ref i1) (.ref i2) ∧ (∃ x y, IsTupOf2 h TO x y) ∧ ItB t h i1 a i ∧ ItB u h i2 b i) where
  mem := by simp
  obj := fun i h st c hc => by
    obtain ⟨hz, hTI, ⟨x, y, hTO⟩, h1, h2⟩ := st
    have e' : c = z ∨ c = TI ∨ c = TO ∨ c = i1 ∨ c = i2 := by simpa using hc
    rcases e' with q | q | q | q | q
    · rw [q]; exact ⟨_, hz, fun v q => nomatch q⟩
    · rw [q]; exact ⟨_, hTI, fun v q => nomatch q⟩
    · rw [q]; exact ⟨_, hTO, fun v q => nomatch q⟩
    · rw [q]; exact h1.obj
    · rw [q]; exact h2.obj
  keep := fun i h h' st k => by
    obtain ⟨hz, hTI, ⟨x, y, hTO⟩, h1, h2⟩ := st
    exact ⟨k z (by simp) _ hz, k TI (by simp) _ hTI, ⟨x, y, k TO (by simp) _ hTO⟩, h1.at fun o q => k i1 (by simp) o q, h2.at fun o q => k i2 (by simp) o q⟩
  item := by
    intro X hP hw hK hc i pins s σ H E I hf st hg
    subst hP hw hK
    obtain ⟨hz, hTI, ⟨x0, y0, hTO⟩, h1, h2⟩ := st
    obtain ⟨xs, ys, x, y, hqx, hqy, hx, hy⟩ := hg
    obtain ⟨its, rv, p, _⟩ := sqB_is I hqx
    obtain ⟨its2, rv2, p2, _⟩ := sqB_is I hqy
    obtain ⟨v1, hu, ru⟩ := rv.get hx
    obtain ⟨v2, hu2, ru2⟩ := rv2.get hy
    have hzl : z < s.heap.objs.size := Heap.lt_size hz
    have hlt1 : i < its.toArray.size := by
      have := (List.getElem?_eq_some_iff.mp hu).1
      simpa using this
    have hlt2 : i < its2.toArray.size := by
      have := (List.getElem?_eq_some_iff.mp hu2).1
      simpa using this
    refine wpAny_pyNext_zipD2_item S (drawsB t (A := X.A.in1) (show X.A.in1.handled = none from I.ok.hd hc) i1 a ha its.toArray) (drawsB u (A := X.A.in1) (show X.A.in1.handled = none from I.ok.hd hc) i2 b hb its2.toArray) hz hTI hTO ⟨h1, p⟩ ⟨h2, p2⟩ hlt1 hlt2
      fun w1 w2 h' tk hw1 hw2 z' TO' h1' h2' hT hsz hk => ?_
    have ex1 : w1 = v1 := by
      have k1 : its.toArray[i]? = some w1 := hw1
      have k2 : its.toArray[i]? = some v1 := by simpa using hu
      rw [k2] at k1
      exact (Option.some.inj k1).symm
    have ex2 : w2 = v2 := by
      have k1 : its2.toArray[i]? = some w2 := hw2
      have k2 : its2.toArray[i]? = some v2 := by simpa using hu2
      rw [k2] at k1
      exact (Option.some.inj k1).symm
    subst ex1 ex2
    refine ⟨_, rfl, wpAny_letOwnedTupleGo_zip (s := { s with heap := h', toks := tk }) z' fun h'' z'' sb => ?_⟩
    have hT2 : h''.get? s.heap.objs.size = some { cls := .type "tuple", data := .seq #[w1, w2] } := (sb.2 _ (Nat.ne_of_gt hzl)).trans hT
    have new : ObjOk X.prog X.w (upd H s.heap.objs.size (.tup [x, y])) h'' s.heap.objs.size (.tup [x, y]) :=
      ⟨by show 2 ≤ sizeLine; decide, [w1, w2], .cons ru (.cons ru2 .nil), ⟨_, hT2, rfl, _, rfl⟩⟩
    have I1 : Inv X pins σ (upd H s.heap.objs.size (.tup [x, y])) { s with heap := h'', toks := tk } :=
      I.turnedNew (ch := [z, TI, TO, i1, i2]) (fun c o hb q => (sb.2 c (fun q' => hb (by simp [q']))).trans (hk c o (fun q' => hb (by simp [q'])) (fun q' => hb (by simp [q'])) (fun q' => hb (by simp [q'])) (fun q' => hb (by simp [q'])) q)) hf (Nat.le_refl _) new
    refine ⟨.ref s.heap.objs.size, _, I1, rfl, ⟨_, x, y, rfl, I.hok.fresh (Nat.le_refl _), rfl, fun l hl => by rw [sqB_inj I hl hqx]; exact hx, fun l hl => by rw [sqB_inj I hl hqy]; exact hy⟩, ⟨z'', ?_, ⟨w1, w2, ?_⟩, ?_, ?_⟩, fun c hcm => ?_⟩
    · exact (sb.2 _ S.TIz).trans (hk _ _ S.TIz S.TITO S.TIi1 S.TIi2 hTI)
    · exact (sb.2 _ S.TOz).trans TO'
    · exact h1'.1.at fun o q => (sb.2 _ S.zi1.symm).trans q
    · exact h2'.1.at fun o q => (sb.2 _ S.zi2.symm).trans q
    · have hlt : c < s.heap.objs.size := by
        have e' : c = z ∨ c = TI ∨ c = TO ∨ c = i1 ∨ c = i2 := by simpa using hcm
        rcases e' with q | q | q | q | q
        · rw [q]; exact hzl
        · rw [q]; exact Heap.lt_size hTI
        · rw [q]; exact Heap.lt_size hTO
        · rw [q]; obtain ⟨_, e1, _⟩ := h1.obj; exact Heap.lt_size e1
        · rw [q]; obtain ⟨_, e2, _⟩ := h2.obj; exact Heap.lt_size e2
      rw [upd_ne (Nat.ne_of_lt hlt)]
      exact (hf c hcm).1
  done := by
    intro X hP hw hK hc i pins s σ H E I hf st hg
    subst hP hw hK
    obtain ⟨hz, hTI, ⟨x0, y0, hTO⟩, h1, h2⟩ := st
    obtain ⟨xs, ys, hqx, hqy, l1, l2, hend⟩ := hg
    obtain ⟨its, rv, p, _⟩ := sqB_is I hqx
    obtain ⟨its2, rv2, p2, _⟩ := sqB_is I hqy
    have e1 := rv.length
    have e2 := rv2.length
    exact wpAny_pyNext_zipD2_end S (drawsB t (A := X.A.in1) (show X.A.in1.handled = none from I.ok.hd hc) i1 a ha its.toArray) (drawsB u (A := X.A.in1) (show X.A.in1.handled = none from I.ok.hd hc) i2 b hb its2.toArray) hz hTI hTO ⟨h1, p⟩ ⟨h2, p2⟩ (by simp; omega) (by simp; omega) (by simp; omega)
      fun h' tk hk => ⟨rfl, I.turnedL (t' := tk) (ch := [z, TI, TO, i1, i2]) (fun c o hb q =>
        hk c o (fun q' => hb (by simp [q'])) (fun q' => hb (by simp [q'])) (fun q' => hb (by simp [q'])) (fun q' => hb (by simp [q'])) q) hf⟩
  self := fun A i s Q E st h => wpAny_pyIter_zip st.1 h
def iZipB (K : PySem.W.Frag) (ta : TA) : TI := fun σ H R => ta σ H fun vs H1 => ∃ t u a b xs ys, vs = [.ref a, .ref b] ∧ SqB t K H1 a xs ∧ SqB u K H1 b ys ∧ R (ItzB t u K a b) H1
theorem pi_zipB {X : Cx} {e e2 : Expr} {ta : TA} {p pos tpos : Pos} {elts : List Expr} {kk : Nat} (hg : Gl X "zip") (hm : X.mg "zip" = none) (ha : PA X [e, e2] ta)
    (hs : starEach [e, e2] X.env = (false, eval e X.env) :: starEach [e2] X.env := by rfl) (hpl : (backTo pos (starEach [e2] X.env)).any (·.1) = false := by rfl) :
    PI X (.Tuple elts kk tpos) (.Call (.Name "zip" p) [e, e2] [] pos) (iZipB X.K ta) := by
  refine ⟨fun pins s σ H R I h => ?_⟩
  refine Call_ (ld_blt I hg hm PyProof.Rows.boot_zip (PyProof.Rows.callWith_type1 (thn (ha.run pos pins s σ H _ I h) fun us s1 ⟨vs, H1, I1, r1, q1⟩ => ?_) hs hpl))
  obtain ⟨t, u, a, b, xs, ys, ex, hqx, hqy, q⟩ := q1
  subst ex
  cases r1 with
  | cons r rr =>
    cases rr with
    | cons r' rr =>
      cases rr
      cases r
      cases r'
      have fresh5 : ∀ c, c ∈ [s1.heap.objs.size + 4, s1.heap.objs.size + 2, s1.heap.objs.size + 3, s1.heap.objs.size, s1.heap.objs.size + 1] → FpOk X pins H1 c := fun c hcm => by
        have e' : c = s1.heap.objs.size + 4 ∨ c = s1.heap.objs.size + 2 ∨ c = s1.heap.objs.size + 3 ∨ c = s1.heap.objs.size ∨ c = s1.heap.objs.size + 1 := by simpa using hcm
        have hle : s1.heap.objs.size ≤ c := by omega
        exact I1.fpOk hle (I1.hok.fresh hle)
      obtain ⟨its, rv, p1, l1⟩ := sqB_is I1 hqx
      obtain ⟨its2, rv2, p2, l2⟩ := sqB_is I1 hqy
      refine zip_begins2 (beginsB t a its.toArray) (beginsB u b its2.toArray) p1 p2 fun h' hz hTI hTO h1 h2 hsz hk => wpAny_pyIter_zip hz ?_
      have I2 : Inv X pins σ H1 { s1 with heap := h' } := I1.kept (t' := s1.toks) hk
      have S := zip_sep2 (N := s1.heap.objs.size) (fp1 := [a]) (fp2 := [b]) (fun c hc => by rw [List.mem_singleton.mp hc]; exact l1) (fun c hc => by rw [List.mem_singleton.mp hc]; exact l2)
      exact ⟨s1.heap.objs.size + 4, [s1.heap.objs.size + 4, s1.heap.objs.size + 2, s1.heap.objs.size + 3, s1.heap.objs.size, s1.heap.objs.size + 1], _, _, H1, rfl, I2, turn_zipB S (Nat.ne_of_lt l1) (Nat.ne_of_lt (Nat.lt_succ_of_lt l2)), ⟨hz, hTI, ⟨_, _, hTO⟩, itB_begin h1, itB_begin h2⟩, fresh5, q⟩
theorem walk_zipB {K : PySem.W.Frag} {t u : Bool} {a b : Addr} {xs ys : List V} {n : Nat} (hn : n = min xs.length ys.length) : Walk (ItzB t u K a b) n (fun H => SqB t K H a xs ∧ SqB u K H b ys) (YPair (fun i => xs[i]?) (fun i => ys[i]?)) := by
  subst hn
  refine ⟨fun i _ hi q => ?_, fun _ q => ⟨xs, ys, q.1, q.2, by omega, by omega, by omega⟩, fun i H v H' _ q y => ?_⟩
  · have h1 : i < xs.length := by omega
    have h2 : i < ys.length := by omega
    exact ⟨xs, ys, xs[i], ys[i], q.1, q.2, by simp [h1], by simp [h2]⟩
  · obtain ⟨T, x, z, h1, h2, h3, h4, h5⟩ := y
    exact ⟨T, x, z, h1, h2, h3, h4 xs q.1, h5 ys q.2⟩
end L2

set_option Elab.async false
set_option linter.all false
set_option maxRecDepth 100000
/-! PdA: values without a heap (D), a small text (E, S), its evaluator. -/
namespace Pd
open PySem

/-- a value as data. mls, mns, mdc: a list, an instance, a dict that its holder alone holds (it may be changed) -/
inductive D where
  | non | bl (b : Bool) | int (i : Int) | str (s : Str)
  | tup (ds : List D) | lst (ds : List D) | ins (c : Nat) (ns : List Str) (ds : List D) | dct (t : Bool) (ks vs : List D)
  | mls (ds : List D) | mns (c : Nat) (ns : List Str) (ds : List D) | mdc (t : Bool) (ks vs : List D)
  deriving Inhabited

mutual
/-- nothing in it may be changed -/
def still : D → Bool
  | .non => true | .bl _ => true | .int _ => true | .str _ => true
  | .tup ds => stills ds | .lst ds => stills ds | .ins _ _ ds => stills ds | .dct _ ks vs => stills ks && stills vs
  | .mls _ => false | .mns _ _ _ => false | .mdc _ _ _ => false
def stills : List D → Bool
  | [] => true
  | d :: ds => still d && stills ds
end
mutual
def frz : D → D
  | .non => .non | .bl b => .bl b | .int i => .int i | .str s => .str s
  | .tup ds => .tup (frzs ds) | .lst ds => .lst (frzs ds) | .ins c ns ds => .ins c ns (frzs ds) | .dct t ks vs => .dct t (frzs ks) (frzs vs)
  | .mls ds => .lst (frzs ds) | .mns c ns ds => .ins c ns (frzs ds) | .mdc t ks vs => .dct t (frzs ks) (frzs vs)
def frzs : List D → List D
  | [] => []
  | d :: ds => frz d :: frzs ds
end
mutual
/-- tuples of plain values at any depth -/
def flat : D → Bool
  | .non => true | .bl _ => true | .int _ => true | .str _ => true
  | .tup ds => flats ds
  | _ => false
def flats : List D → Bool
  | [] => true
  | d :: ds => flat d && flats ds
end
mutual
def toPy : D → Option PyData
  | .non => some .none | .bl b => some (.bool b) | .int i => some (.int i) | .str s => some (.str s)
  | .tup ds => (toPys ds).map .tuple
  | .lst ds => (toPys ds).map .list
  | .mls ds => (toPys ds).map .list
  | _ => none
def toPys : List D → Option (List PyData)
  | [] => some []
  | d :: ds => match toPy d, toPys ds with
    | some x, some xs => some (x :: xs)
    | _, _ => none
end

abbrev Env := List (Option D)
/-- an exception: its class, its one field (an int) -/
structure Exn where
  c : Nat
  f : Option Int := none
  deriving Inhabited
inductive R (α : Type) where
  | ok (a : α) (ρ : Env) | exn (x : Exn) (ρ : Env) | stk
inductive RS where
  | nx (ρ : Env) | rt (d : D) (ρ : Env) | bk (ρ : Env) | ct (ρ : Env) | ex (x : Exn) (ρ : Env) | stk
inductive RF where
  | ok (d : D) (ms : List D) | exn (x : Exn) | stk
def R.bind {α β : Type} (r : R α) (f : α → Env → R β) : R β := match r with
  | .ok a ρ => f a ρ
  | .exn x ρ => .exn x ρ
  | .stk => .stk
def R.of {α : Type} (o : Option α) (ρ : Env) : R α := match o with
  | some a => .ok a ρ
  | none => .stk
structure Fd where
  nm : Str
  mu : List Nat
  F : List D → RF
structure Tab where
  fns : List Fd := []
  cls : List (Nat × Fd) := []
  gls : List D := []
  flds : List (Nat × Str) := []
  sub : Nat → Nat → Bool := fun _ _ => false
  exc : Option Exn := none

inductive Op where
  | add | sub | mul | fdiv | mod | shl | shr | band | bor | bxor | neg
  | lt | le | gt | ge | eq | ne | isN | isnN | isin | notin
  | len | abs | int | str | tuple | list | all | any | sum | min2 | max2 | sorted | lenset
  | sl (l h : Bool) | join | split | starts | ends | index | bits | fmt | get2 | lzip | tzip | lrange2
  | isT (n : String)
  deriving DecidableEq, Inhabited
inductive IK where
  | seq | keys | items | rng1 | rng2 | zip | enum | prod | prodr | combos | zip3
  deriving DecidableEq, Inhabited
inductive Tg where
  | var (i : Nat) | tup (ts : List Tg)
  deriving Inhabited
inductive CK where
  | fn | meth (c : Nat) (m : Str) | prop (c : Nat) (m : Str)
  deriving DecidableEq, Inhabited
inductive E where
  | var (i : Nat) | frz (i : Nat) | mov (i : Nat)
  | non | bl (b : Bool) | int (i : Int) | str (s : Str) | glob (j : Nat)
  | fld (a : E) (f : Str) | ix (a i : E) | fz (a : E) | bor (a : E)
  | op (o : Op) (es : List E) | chain (o o' : Op) (es : List E)
  | and (a b : E) | or (a b : E) | not (a : E) | ite (c a b : E)
  | tup (es : List E) | lst (es : List E) | dict (t : Bool) (kv : List E)
  | call (k : CK) (j : Nat) (es : List E) | mcall (k : CK) (j : Nat) (pre : List E) (i : Nat) (post : List E) | make (j : Nat) (es : List E)
  | comp (elt : E) (tg : Tg) (k : IK) (ies : List E) (ifs : List E) (own : List Nat)
  | comp2 (elt : E) (tg : Tg) (k : IK) (ies : List E) (tg' : Tg) (k' : IK) (ies' : List E) (own : List Nat)
  | pop (i : Nat)
  | isx (c : Nat) | xfld
  deriving Inhabited
/-- how a place is reached from a slot: a field, an item -/
inductive Stp where
  | f (n : Str) | ix (e : E)
  deriving Inhabited
inductive S where
  | asg (tg : Tg) (e : E) | aug (i : Nat) (o : Op) (e : E) | ext (i : Nat) (e : E)
  | setix (i : Nat) (p : List Stp) (k e : E) | augix (i : Nat) (o : Op) (k e : E) | setfld (i : Nat) (f : Str) (e : E)
  | app (i : Nat) (e : E) | appP (i : Nat) (p : List Stp) (e : E) | dput (i : Nat) (k e : E)
  | expr (e : E) | ret (e : E) | retN | pass | brk | cnt
  | ifs (c : E) (a b : List S) | fors (tg : Tg) (k : IK) (ies : List E) (body : List S) | whl (n : Nat) (c : E) (body : List S)
  | raise (c : Nat) (e : Option E) | try (body : List S) (hs : List (Nat × Option Nat × List S))
  deriving Inhabited

def isPlace : E → Bool
  | .var _ => true
  | .fld a _ => isPlace a
  | .ix a _ => isPlace a
  | _ => false
mutual
/-- no object that stood before is changed -/
def quiet : E → Bool
  | .var _ => true | .frz _ => true | .mov _ => true | .non => true | .bl _ => true | .int _ => true | .str _ => true | .glob _ => true
  | .fld a _ => quiet a | .ix a i => quiet a && quiet i | .fz a => quiet a | .bor a => quiet a
  | .op _ es => quiets es | .chain _ _ es => quiets es
  | .and a b => quiet a && quiet b | .or a b => quiet a && quiet b | .not a => quiet a | .ite c a b => quiet c && (quiet a && quiet b)
  | .tup es => quiets es | .lst es => quiets es | .dict _ kv => quiets kv
  | .call _ _ es => quiets es | .mcall _ _ _ _ _ => false | .make _ es => quiets es
  | .comp e _ _ ies ifs _ => quiet e && (quiets ies && quiets ifs)
  | .comp2 e _ _ ies _ _ ies' _ => quiet e && (quiets ies && quiets ies')
  | .pop _ => false
  | .isx _ => true | .xfld => true
def quiets : List E → Bool
  | [] => true
  | e :: es => quiet e && quiets es
end
mutual
/-- the slots stay as they are, too -/
def pur : E → Bool
  | .var _ => true | .frz _ => false | .mov _ => false | .non => true | .bl _ => true | .int _ => true | .str _ => true | .glob _ => true
  | .fld a _ => pur a | .ix a i => pur a && pur i | .fz a => pur a | .bor a => pur a
  | .op _ es => purs es | .chain _ _ es => purs es
  | .and a b => pur a && pur b | .or a b => pur a && pur b | .not a => pur a | .ite c a b => pur c && (pur a && pur b)
  | .tup es => purs es | .lst es => purs es | .dict _ kv => purs kv
  | .call _ _ es => purs es | .mcall _ _ _ _ _ => false | .make _ es => purs es
  | .comp _ _ _ _ _ _ => false
  | .comp2 _ _ _ _ _ _ _ _ => false
  | .pop _ => false
  | .isx _ => true | .xfld => true
def purs : List E → Bool
  | [] => true
  | e :: es => pur e && purs es
end
mutual
/-- nothing is raised -/
def safe : E → Bool
  | .var _ => true | .non => true | .bl _ => true | .int _ => true | .str _ => true | .glob _ => true
  | .fld a _ => safe a | .ix a i => safe a && safe i | .op _ es => safes es | .not a => safe a
  | _ => false
def safes : List E → Bool
  | [] => true
  | e :: es => safe e && safes es
end
def hasBor : List E → Bool
  | [] => false
  | .bor _ :: _ => true
  | _ :: es => hasBor es
mutual
def quietS : S → Bool
  | .asg _ e => quiet e | .aug _ _ e => quiet e | .expr e => quiet e | .ret e => quiet e | .retN => true | .pass => true | .brk => true | .cnt => true
  | .ifs c a b => quiet c && (quietB a && quietB b)
  | .fors _ _ ies body => quiets ies && quietB body
  | .whl _ c body => quiet c && quietB body
  | .raise _ _ => true
  | _ => false
def quietB : List S → Bool
  | [] => true
  | s :: ss => quietS s && quietB ss
end

/-! ### what the operators make -/
def line : Nat := 16777216
def lineOk {α : Type} (l : List α) : Bool := decide (l.length ≤ 16777216)
def lineLt {α : Type} (l : List α) : Bool := decide (l.length < 16777216)
/-- the items of a list or a tuple -/
def itemsOf : D → Option (List D)
  | .tup ds => some ds | .lst ds => some ds | .mls ds => some ds
  | _ => none
/-- the items of a list -/
def lstI : D → Option (List D)
  | .lst ds => some ds | .mls ds => some ds
  | _ => none
def truth : D → Option Bool
  | .non => some false | .bl b => some b | .int i => some (i != 0)
  | .str s => if s.length ≤ 16777216 then some ((s.length : Int) != 0) else none
  | .tup ds => some (!ds.isEmpty) | .lst ds => some (!ds.isEmpty) | .mls ds => some (!ds.isEmpty)
  | _ => none
def mulOk (i j : Int) : Bool := decide (-(2 ^ 64) < i ∧ i < 2 ^ 64) || (decide (-(2 ^ 64) < j ∧ j < 2 ^ 64) || decide ((Builtin.Int.intBits i : Int) + (Builtin.Int.intBits j : Int) ≤ 134217728))
def shlOk (i j : Int) : Bool := decide (0 ≤ j ∧ (Builtin.Int.intBits i : Int) + j ≤ 134217728)
def fmtOk (i : Int) : Bool := decide (i.natAbs.log2 < 1920)
def shaped (d : PyData) : Bool := SeqAt.shaped d
def eqD (a b : D) : Option Bool := match toPy a, toPy b with
  | some x, some y => if shaped x = true ∧ shaped y = true then some (PyData.eqv x y) else none
  | _, _ => none
def boolsOf : List D → Option (List Bool)
  | [] => some []
  | .bl b :: ds => (boolsOf ds).map (b :: ·)
  | _ :: _ => none
def intsOf : List D → Option (List Int)
  | [] => some []
  | .int b :: ds => (intsOf ds).map (b :: ·)
  | _ :: _ => none
def strsOf : List D → Option (List Str)
  | [] => some []
  | .str b :: ds => (strsOf ds).map (b :: ·)
  | _ :: _ => none
/-- the place of an index -/
def ixD (n : Nat) (i : Int) : Option Nat := if 0 ≤ i then (if i < n then some i.toNat else none) else if -(n : Int) ≤ i then some (i + n).toNat else none
def atD (ds : List D) (i : Int) : Option D := (ixD ds.length i).bind fun j => ds[j]?
/-- the ends of a slice -/
def cutIx (n d : Nat) : Option Int → Nat
  | none => d
  | some v => if v < 0 then (v + (n : Int)).toNat else min v.toNat n
def cutD (ds : List D) (lo hi : Option Int) : List D := (ds.drop (cutIx ds.length 0 lo)).take (cutIx ds.length ds.length hi - cutIx ds.length 0 lo)
def cutStr (x : Str) (lo hi : Option Int) : Str := ⟨((x.cps.toList.drop (cutIx x.cps.toList.length 0 lo)).take (cutIx x.cps.toList.length x.cps.toList.length hi - cutIx x.cps.toList.length 0 lo)).toArray⟩
def slD (a : D) (lo hi : Option Int) : Option D := match a with
  | .tup ds => if stills ds = true then some (.tup (cutD ds lo hi)) else none
  | .lst ds => some (.mls (cutD ds lo hi))
  | .mls ds => if stills ds = true then some (.mls (cutD ds lo hi)) else none
  | .str x => if x.length ≤ 16777216 then some (.str (cutStr x lo hi)) else none
  | _ => none
def isTD (n : String) : D → Option Bool
  | .non => some (n == "NoneType") | .bl _ => some (n == "bool" || n == "int") | .int _ => some (n == "int") | .str _ => some (n == "str")
  | .tup _ => some (n == "tuple") | .lst _ => some (n == "list") | .mls _ => some (n == "list")
  | _ => none
def keyEq (a b : D) : Bool := match toPy a, toPy b with
  | some x, some y => PyData.eqv x y
  | _, _ => false
def lookD (k : D) : List D → List D → Option D
  | a :: ks, v :: vs => if keyEq a k then some v else lookD k ks vs
  | _, _ => none
/-- a key of a dict: ints and texts (t false), tuples of them (t true) -/
def keyOk (t : Bool) : D → Bool
  | .int _ => !t | .str _ => !t
  | .tup ds => t && ds.all fun d => match d with | .int _ => true | .str _ => true | _ => false
  | _ => false
def replD (k v : D) : List D → List D → List D
  | a :: ks, w :: vs => (if keyEq a k then v else w) :: replD k v ks vs
  | _, _ => []
def putD (k v : D) (ks vs : List D) : List D × List D := if ks.any (keyEq · k) then (ks, replD k v ks vs) else (ks ++ [k], vs ++ [v])
def fmtD : List D → Option Str
  | [] => some Str.empty
  | .str s :: ds => (fmtD ds).map (s ++ ·)
  | .int i :: ds => if fmtOk i = true then (fmtD ds).map (toString i ++ ·) else none
  | _ :: _ => none
/-- what a for walks -/
def charsOf (s : Str) : List D := s.cps.toList.map fun c => .str ⟨#[c]⟩
def seqD : D → Option (List D)
  | .str s => some (charsOf s)
  | d => itemsOf d
def ivl (i j : Int) : List D := (List.range (j - i).toNat).map fun k => .int (i + (k : Nat))
def pairsD (xs ys : List D) : List D := List.zipWith (fun x y => .tup [x, y]) xs ys
def enumFrom : Nat → List D → List D
  | _, [] => []
  | n, d :: ds => .tup [.int (n : Nat), d] :: enumFrom (n + 1) ds
def rngOk (i : Int) : Bool := decide (-(2 ^ 62) ≤ i ∧ i < 2 ^ 62)
/-! order, distinct items, texts -/
/-- one behind another, a shorter one first -/
def lexI : List Int → List Int → Bool
  | [], [] => false
  | [], _ :: _ => true
  | _ :: _, [] => false
  | x :: xs, y :: ys => if x = y then lexI xs ys else decide (x < y)
def rawI : List D → List Int
  | [] => []
  | .int i :: ds => i :: rawI ds
  | _ :: ds => rawI ds
/-- the ints of an int, of a tuple of ints -/
def dints : D → List Int
  | .int i => [i]
  | .tup ds => rawI ds
  | _ => []
def ltD (x y : D) : Bool := lexI (dints x) (dints y)
def insD (x : D) : List D → List D
  | [] => [x]
  | y :: ys => if ltD x y then x :: y :: ys else y :: insD x ys
def sortD : List D → List D
  | [] => []
  | x :: xs => insD x (sortD xs)
def allInts (ds : List D) : Bool := ds.all fun d => match d with
  | .int _ => true
  | _ => false
def allTups (ds : List D) : Bool := ds.all fun d => match d with
  | .tup xs => !xs.isEmpty && allInts xs
  | _ => false
def distinct {α : Type} [DecidableEq α] : List α → Nat
  | [] => 0
  | x :: xs => if x ∈ xs then distinct xs else distinct xs + 1
def findIx (x : PyData) : List PyData → Option Nat
  | [] => none
  | y :: ys => if PyData.eqv y x then some 0 else (findIx x ys).map (· + 1)
def combosD : Nat → List D → List (List D)
  | 0, _ => [[]]
  | _ + 1, [] => []
  | k + 1, x :: xs => (combosD k xs).map (x :: ·) ++ combosD (k + 1) xs
def zip3D : List D → List D → List D → List D
  | x :: xs, y :: ys, z :: zs => .tup [x, y, z] :: zip3D xs ys zs
  | _, _, _ => []
def int2 (f : Int → Int → Option D) (a b : D) : Option D := match a, b with
  | .int i, .int j => f i j
  | _, _ => none
def str2 (f : Str → Str → Option D) (a b : D) : Option D := match a, b with
  | .str i, .str j => f i j
  | _, _ => none
/-- a list's items that may be handed on -/
def listOf : D → Option (List D)
  | .lst xs => some xs
  | .mls xs => if stills xs = true then some xs else none
  | _ => none
def addD (a b : D) : Option D := match a, b with
  | .int i, .int j => some (.int (i + j))
  | .str x, .str y => if x.length + y.length ≤ 16777216 then some (.str (x ++ y)) else none
  | .tup xs, .tup ys => if (stills xs = true ∧ stills ys = true) ∧ xs.length + ys.length ≤ 16777216 then some (.tup (xs ++ ys)) else none
  | a, b => match listOf a, listOf b with
    | some xs, some ys => if xs.length + ys.length ≤ 16777216 then some (.mls (xs ++ ys)) else none
    | _, _ => none
def mulD (a b : D) : Option D := match a, b with
  | .int i, .int j => if mulOk i j = true then some (.int (i * j)) else none
  | a, .int k => match listOf a with
    | some xs => if (-(2 ^ 63) ≤ k ∧ k < 2 ^ 63) ∧ xs.length * k.toNat ≤ 16777216 then some (.mls (List.replicate k.toNat xs).flatten) else none
    | none => none
  | _, _ => none
def lenD (a : D) : Option D := match a with
  | .str s => if s.length ≤ 16777216 then some (.int s.length) else none
  | a => (itemsOf a).map fun ds => .int ds.length
def intD (a : D) : Option D := match a with
  | .int i => some (.int i)
  | .bl b => some (.int (if b then 1 else 0))
  | .str a => if a.length ≤ 640 then (PySem.intText? a).map .int else none
  | _ => none
def strD (a : D) : Option D := match a with
  | .int i => if fmtOk i = true then some (.str (toString i)) else none
  | _ => none
def absD (a : D) : Option D := match a with
  | .int i => some (.int (if i < 0 then -i else i))
  | _ => none
def negD (a : D) : Option D := match a with
  | .int i => some (.int (-i))
  | _ => none
def bitsD (a : D) : Option D := match a with
  | .int i => some (.int (Builtin.Int.intBits i))
  | _ => none
def tupleD (a : D) : Option D := match a with
  | .tup ds => if stills ds = true then some (.tup ds) else none
  | a => (listOf a).map .tup
def listD (a : D) : Option D := match a with
  | .tup ds => if stills ds = true then some (.mls ds) else none
  | a => (listOf a).map .mls
def isNB (a : D) : Bool := match a with
  | .non => true
  | _ => false
def intOf : D → Option Int
  | .int i => some i
  | _ => none
def dctIn (t : Bool) (a : D) (ks vs : List D) : Option Bool := if keyOk t a = true then some (lookD a ks vs).isSome else none
/-- None, a truth value, an int, a text -/
def flat0 : D → Bool
  | .non => true | .bl _ => true | .int _ => true | .str _ => true
  | _ => false
def eq0 : D → D → Bool
  | .non, .non => true
  | .bl a, .bl b => a == b
  | .bl a, .int b => (if a then 1 else 0) == b
  | .int a, .bl b => a == (if b then 1 else 0)
  | .int a, .int b => a == b
  | .str a, .str b => a == b
  | _, _ => false
def inD (a b : D) : Option Bool := match b with
  | .str s => (match a with
    | .str c => if c.length = 1 then some (decide (c.cps.getD 0 0 ∈ s.cps.toList)) else none
    | _ => none)
  | .dct t ks vs => dctIn t a ks vs
  | .mdc t ks vs => dctIn t a ks vs
  | .tup ds => if flat0 a = true ∧ ds.all flat0 = true then some (ds.any fun y => eq0 y a) else none
  | b => if (flat0 a && ((itemsOf b).getD []).all flat0) = true then (itemsOf b).map fun ds => ds.any fun y => eq0 y a else match toPy a, (itemsOf b).bind toPys with
    | some x, some ys => if shaped x = true ∧ shaped (.list ys) = true then some (ys.any fun y => PyData.eqv y x) else none
    | _, _ => none
def getD2 (d k x : D) : Option D := match d with
  | .mdc t ks vs => if keyOk t k = true ∧ still x = true ∧ stills vs = true then some ((lookD k ks vs).getD x) else none
  | .dct t ks vs => if keyOk t k = true ∧ still x = true then some ((lookD k ks vs).getD x) else none
  | _ => none
def sortedD (a : D) : Option D := match lstI a with
  | some ds => if allTups ds = true then some (.mls (sortD ds)) else none
  | none => none
def joinD (z a : D) : Option D := match z, (itemsOf a).bind strsOf with
  | .str z, some ys => if (ys.map (·.length)).sum + ys.length * z.length ≤ 16777216 then some (.str (Txt.join z ys)) else none
  | _, _ => none
def splitD : Str → Str → Option D := fun a b => if (b.length == 0) = false ∧ a.length + 2 ≤ 16777216 then some (.mls ((Txt.split a b).map .str)) else none
def indexD (a x : D) : Option D := match a with
  | .tup _ => none
  | a => match toPy x, (itemsOf a).bind toPys with
    | some x, some ys => if shaped x = true ∧ shaped (.list ys) = true then (findIx x ys).map fun (j : Nat) => .int j else none
    | _, _ => none
def lensetD (a : D) : Option D := match lstI a with
  | some ds => (match strsOf ds with
    | some ys => if ys.length ≤ 1000 then some (.int (distinct ys)) else none
    | none => none)
  | none => none
def zipD (a b : D) : Option (List D) := match itemsOf a, itemsOf b with
  | some xs, some ys => if stills xs = true ∧ stills ys = true then some (pairsD xs ys) else none
  | _, _ => none
def opD : Op → List D → Option D
  | .add, [a, b] => addD a b
  | .sub, [a, b] => int2 (fun i j => some (.int (i - j))) a b
  | .mul, [a, b] => mulD a b
  | .fdiv, [a, b] => int2 (fun i j => if 0 < j ∧ j < 1073741824 then some (.int (i / j)) else none) a b
  | .mod, [a, b] => int2 (fun i j => if 0 < j then some (.int (i % j)) else none) a b
  | .shl, [a, b] => int2 (fun i j => if shlOk i j = true then some (.int (i * 2 ^ j.toNat)) else none) a b
  | .shr, [a, b] => int2 (fun i j => if 0 ≤ j then some (.int (i / 2 ^ j.toNat)) else none) a b
  | .band, [a, b] => int2 (fun i j => some (.int (Builtin.bitAnd i j))) a b
  | .bor, [a, b] => int2 (fun i j => some (.int (Builtin.bitOr i j))) a b
  | .bxor, [a, b] => int2 (fun i j => some (.int (Builtin.bitXor i j))) a b
  | .neg, [a] => negD a
  | .lt, [a, b] => int2 (fun i j => some (.bl (decide (i < j)))) a b
  | .le, [a, b] => int2 (fun i j => some (.bl (decide (i ≤ j)))) a b
  | .gt, [a, b] => int2 (fun i j => some (.bl (decide (j < i)))) a b
  | .ge, [a, b] => int2 (fun i j => some (.bl (decide (j ≤ i)))) a b
  | .eq, [a, b] => (eqD a b).map .bl
  | .ne, [a, b] => (eqD a b).map fun c => .bl (!c)
  | .isN, [a] => some (.bl (isNB a))
  | .isnN, [a] => some (.bl (!isNB a))
  | .len, [a] => lenD a
  | .abs, [a] => absD a
  | .int, [a] => intD a
  | .str, [a] => strD a
  | .tuple, [a] => tupleD a
  | .list, [a] => listD a
  | .all, [a] => ((lstI a).bind boolsOf).map fun bs => .bl (bs.all id)
  | .any, [a] => ((lstI a).bind boolsOf).map fun bs => .bl (bs.any id)
  | .sum, [a] => ((lstI a).bind intsOf).map fun ns => .int ns.sum
  | .min2, [a, b] => int2 (fun i j => some (.int (if j < i then j else i))) a b
  | .max2, [a, b] => int2 (fun i j => some (.int (if j > i then j else i))) a b
  | .sl false false, [a] => slD a none none
  | .sl true false, [a, i] => (intOf i).bind fun i => slD a (some i) none
  | .sl false true, [a, j] => (intOf j).bind fun j => slD a none (some j)
  | .sl true true, [a, i, j] => (intOf i).bind fun i => (intOf j).bind fun j => slD a (some i) (some j)
  | .isT n, [a] => (isTD n a).map .bl
  | .fmt, ds => (fmtD ds).bind fun s => if s.length ≤ 16777216 then some (.str s) else none
  | .isin, [a, b] => (inD a b).map .bl
  | .notin, [a, b] => (inD a b).map fun c => .bl (!c)
  | .get2, [d, k, x] => getD2 d k x
  | .sorted, [a] => sortedD a
  | .join, [z, a] => joinD z a
  | .split, [a, b] => str2 splitD a b
  | .starts, [a, b] => str2 (fun a b => some (.bl (Txt.startswith a b))) a b
  | .ends, [a, b] => str2 (fun a b => some (.bl (Txt.endswith a b))) a b
  | .index, [a, x] => indexD a x
  | .bits, [a] => bitsD a
  | .lenset, [a] => lensetD a
  | .lzip, [a, b] => (zipD a b).map .mls
  | .tzip, [a, b] => (zipD a b).map .tup
  | .lrange2, [a, b] => int2 (fun i j => if rngOk i = true ∧ rngOk j = true ∧ j - i ≤ 1000000 then some (.mls (ivl i j)) else none) a b
  | _, _ => none
def seqI : D → Option (List D)
  | .tup ds => some ds
  | d => lstI d
def zipI (a b : D) : Option (List D) := match seqI a, seqI b with
  | some xs, some ys => if stills xs = true ∧ stills ys = true then some (pairsD xs ys) else none
  | _, _ => none
def enumI (a : D) : Option (List D) := (itemsOf a).bind fun xs => if stills xs = true then some (enumFrom 0 xs) else none
def iterD : IK → List D → Option (List D)
  | .seq, [a] => seqD a
  | .keys, [.dct _ ks _] => some ks
  | .items, [.dct _ ks vs] => some (pairsD ks vs)
  | .rng1, [.int j] => if rngOk j = true then some (ivl 0 j) else none
  | .rng2, [.int i, .int j] => if rngOk i = true ∧ rngOk j = true then some (ivl i j) else none
  | .zip, [a, b] => zipI a b
  | .enum, [a] => enumI a
  | .prod, [a, b] => match itemsOf a, itemsOf b with
    | some xs, some ys => some (xs.flatMap fun x => ys.map fun y => .tup [x, y])
    | _, _ => none
  | .prodr, [a, .int n] => match itemsOf a with
    | some xs => if rngOk n = true then some (xs.flatMap fun x => (ivl 0 n).map fun y => .tup [x, y]) else none
    | none => none
  | .combos, [.int n, .int k] => if 0 ≤ k ∧ k ≤ 100 ∧ n ≤ 100 then some ((combosD k.toNat (ivl 0 n)).map .tup) else none
  | .zip3, [a, b, c] => match itemsOf a, itemsOf b, itemsOf c with
    | some xs, some ys, some zs => some (zip3D xs ys zs)
    | _, _, _ => none
  | _, _ => none
def lookF (f : Str) : List Str → List D → Option D
  | n :: ns, d :: ds => if n = f then some d else lookF f ns ds
  | _, _ => none
def putFd (f : Str) (v : D) : List Str → List D → List Str × List D
  | n :: ns, d :: ds => if n = f then (n :: ns, v :: ds) else (n :: (putFd f v ns ds).1, d :: (putFd f v ns ds).2)
  | _, _ => ([f], [v])
mutual
def asg : Tg → D → Env → Option Env
  | .var i, d, ρ => if i < ρ.length then some (ρ.set i (some d)) else none
  | .tup ts, .tup ds, ρ => asgs ts ds ρ
  | .tup _, _, _ => none
def asgs : List Tg → List D → Env → Option Env
  | [], [], ρ => some ρ
  | t :: ts, d :: ds, ρ => (asg t d ρ).bind (asgs ts ds)
  | _, _, _ => none
end
mutual
def tgSl : Tg → List Nat
  | .var i => [i]
  | .tup ts => tgSls ts
def tgSls : List Tg → List Nat
  | [] => []
  | t :: ts => tgSl t ++ tgSls ts
end
def slots (ρ : Env) : List Nat → List (Option D)
  | [] => []
  | i :: is => (ρ[i]?.getD none) :: slots ρ is
def wipeD (ρ : Env) : List Nat → Env
  | [] => ρ
  | i :: is => (wipeD ρ is).set i none
/-- the slots of a comprehension get back what they held -/
def backD (ρ0 ρ : Env) : List Nat → Env
  | [] => ρ
  | i :: is => (backD ρ0 ρ is).set i (ρ0[i]?.getD none)
def ownOk (ρ : Env) (own : List Nat) : Bool := own.all fun i => match ρ[i]? with
  | some (some d) => still d
  | some none => true
  | none => false
/-- a[k] -/
def ixOf (d k : D) : Option D := match d with
  | .mdc t ks vs => if keyOk t k then lookD k ks vs else none
  | .dct t ks vs => if keyOk t k then lookD k ks vs else none
  | .str s => (match k with
    | .int k => if s.length ≤ 16777216 then (ixD s.cps.toList.length k).bind fun j => s.cps.toList[j]?.map fun c => D.str ⟨#[c]⟩ else none
    | _ => none)
  | .tup ds => (match k with
    | .int k => atD ds k
    | _ => none)
  | .lst ds => (match k with
    | .int k => atD ds k
    | _ => none)
  | .mls ds => (match k with
    | .int k => atD ds k
    | _ => none)
  | _ => none
def loopC (f : D → Env → R (Option D)) : List D → Env → List D → R (List D)
  | [], ρ, acc => .ok acc ρ
  | x :: xs, ρ, acc => match f x ρ with
    | .ok none ρ' => loopC f xs ρ' acc
    | .ok (some d) ρ' => loopC f xs ρ' (acc ++ [d])
    | .exn _ _ => .stk
    | .stk => .stk
/-- within the loop over one item another loop, onto the same list -/
def loopC2 (f : D → Env → List D → R (List D)) : List D → Env → List D → R (List D)
  | [], ρ, acc => .ok acc ρ
  | x :: xs, ρ, acc => match f x ρ acc with
    | .ok acc' ρ' => loopC2 f xs ρ' acc'
    | _ => .stk
/-- the receiver: an instance of the class that has no field of the method's name -/
def recvD (c : Nat) (m : Str) : List D → Bool
  | .ins c' ns _ :: _ => decide (c' = c) && !ns.contains m
  | .mns c' ns _ :: _ => decide (c' = c) && !ns.contains m
  | _ => false
def recvOk : CK → List D → Bool
  | .fn, _ => true
  | .meth c m, ds => recvD c m ds
  | .prop c m, ds => recvD c m ds && decide (ds.length = 1)
def fmut (f : Fd) : Bool := match f.mu with
  | [] => true
  | _ => false

/-- what a method's receiver must be -/
def recvTy : Op → D → Bool
  | .join, .str _ => true | .split, .str _ => true | .starts, .str _ => true | .ends, .str _ => true
  | .join, _ => false | .split, _ => false | .starts, _ => false | .ends, _ => false
  | .index, .lst _ => true | .index, .mls _ => true | .index, _ => false
  | .get2, .dct _ _ _ => true | .get2, .mdc _ _ _ => true | .get2, _ => false
  | _, _ => true
def anyD (_ : D) : Bool := true
def recv1 : CK → D → Bool
  | .fn, _ => true
  | .meth c m, d => recvD c m [d]
  | .prop c m, d => recvD c m [d]
/-- the receiver of a method that changes it is what it must be -/
def headOk (k : CK) : List E → Option (Option D) → Bool
  | [], some (some d) => recv1 k d
  | _ :: _, some (some _) => true
  | _, _ => false
mutual
def evE (T : Tab) : E → Env → R D
  | .var i, ρ => match ρ[i]? with
    | some (some d) => .ok d ρ
    | _ => .stk
  | .frz i, ρ => match ρ[i]? with
    | some (some d) => .ok (Pd.frz d) (ρ.set i (some (Pd.frz d)))
    | _ => .stk
  | .mov i, ρ => match ρ[i]? with
    | some (some d) => .ok d (ρ.set i none)
    | _ => .stk
  | .non, ρ => .ok .non ρ
  | .bl b, ρ => .ok (.bl b) ρ
  | .int i, ρ => .ok (.int i) ρ
  | .str s, ρ => .ok (.str s) ρ
  | .glob j, ρ => R.of T.gls[j]? ρ
  | .fld a f, ρ => (evE T a ρ).bind fun d ρ' => match d with
    | .ins c ns ds => if T.flds.contains (c, f) then R.of (lookF f ns ds) ρ' else .stk
    | .mns c ns ds => if T.flds.contains (c, f) then R.of (lookF f ns ds) ρ' else .stk
    | _ => .stk
  | .ix a i, ρ => (evE T a ρ).bind fun d ρ1 => if !still d && !pur i then .stk else (evE T i ρ1).bind fun k ρ2 => R.of (ixOf d k) ρ2
  | .fz a, ρ => (evE T a ρ).bind fun d ρ' => if isPlace a && !still d then .stk else .ok (Pd.frz d) ρ'
  | .bor a, ρ => .stk
  | .op o es, ρ => (evEs T (recvTy o) es ρ).bind fun ds ρ' => R.of (opD o ds) ρ'
  | .chain o o' es, ρ => (evEs T anyD es ρ).bind fun ds ρ' => match ds with
    | [x, y, z] => (match opD o [x, y], opD o' [y, z] with
      | some (.bl p), some (.bl q) => .ok (.bl (p && q)) ρ'
      | _, _ => .stk)
    | _ => .stk
  | .and a b, ρ => (evE T a ρ).bind fun d ρ1 => match truth d with
    | some true => (evE T b ρ1).bind fun d ρ2 => if isPlace b && !still d then .stk else .ok d ρ2
    | some false => if still d then .ok d ρ1 else .stk
    | none => .stk
  | .or a b, ρ => (evE T a ρ).bind fun d ρ1 => match truth d with
    | some false => (evE T b ρ1).bind fun d ρ2 => if isPlace b && !still d then .stk else .ok d ρ2
    | some true => if still d then .ok d ρ1 else .stk
    | none => .stk
  | .not a, ρ => (evE T a ρ).bind fun d ρ1 => R.of ((truth d).map fun b => D.bl (!b)) ρ1
  | .ite c a b, ρ => (evE T c ρ).bind fun d ρ1 => match truth d with
    | some true => (evE T a ρ1).bind fun d ρ2 => if isPlace a && !still d then .stk else .ok d ρ2
    | some false => (evE T b ρ1).bind fun d ρ2 => if isPlace b && !still d then .stk else .ok d ρ2
    | none => .stk
  | .tup es, ρ => (evCs T es ρ).bind fun ds ρ' => if lineOk ds then .ok (.tup ds) ρ' else .stk
  | .lst es, ρ => (evCs T es ρ).bind fun ds ρ' => if lineOk ds then .ok (.mls ds) ρ' else .stk
  | .dict t kv, ρ => (evCs T kv ρ).bind fun ds ρ' => match ds with
    | [] => .ok (.mdc t [] []) ρ'
    | [k, v] => if keyOk t k && still v then .ok (.mdc t [k] [v]) ρ' else .stk
    | _ => .stk
  | .call k j es, ρ => match T.fns[j]? with
    | none => .stk
    | some f => if !fmut f || (hasBor es && !purs es) then .stk else (evAs T (recv1 k) es ρ).bind fun ds ρ1 => if !recvOk k ds then .stk else match f.F ds with
      | .ok d _ => if hasBor es && !flat d then .stk else .ok d ρ1
      | .exn x => (match k with
        | .prop _ _ => .stk
        | _ => .exn x ρ1)
      | .stk => .stk
  | .mcall k j pre i post, ρ => match T.fns[j]? with
    | none => .stk
    | some f => if f.mu = [pre.length] then (if hasBor pre || hasBor post then .stk else (evAs T (recv1 k) pre ρ).bind fun ds ρ1 => if !headOk k pre ρ1[i]? then .stk else (evAs T anyD post ρ1).bind fun ds' ρ2 => match ρ2[i]? with
      | some (some d0) => if !recvOk k (ds ++ d0 :: ds') then .stk else (match f.F (ds ++ d0 :: ds') with
        | .ok d [d1] => .ok d (ρ2.set i (some d1))
        | .ok _ _ => .stk
        | .exn x => .exn x (ρ2.set i none)
        | .stk => .stk)
      | _ => .stk) else .stk
  | .make j es, ρ => match T.cls[j]? with
    | none => .stk
    | some (c, f) => if f.mu = [0] then (if hasBor es then .stk else (evAs T anyD es ρ).bind fun ds ρ1 => match f.F (.mns c [] [] :: ds) with
      | .ok .non [d] => .ok d ρ1
      | .ok _ _ => .stk
      | .exn x => .exn x ρ1
      | .stk => .stk) else .stk
  | .comp elt tg k ies ifs own, ρ => (evEs T anyD ies ρ).bind fun ds ρ1 => match iterD k ds with
    | none => .stk
    | some items => if !(stills items && (lineLt items && ownOk ρ1 own)) || (!stills ds && !(quiet elt && quiets ifs)) then .stk else
      (loopC (fun x ρ => match asg tg x (wipeD ρ own) with
        | none => .stk
        | some ρ2 => (evIfs T ifs ρ2).bind fun b ρ3 => if b then (evE T elt ρ3).bind fun d ρ4 => if isPlace elt && !still d then .stk else .ok (some d) ρ4 else .ok none ρ3) items ρ1 []).bind fun acc ρ5 =>
      .ok (.mls acc) (backD ρ1 ρ5 own)
  | .comp2 elt tg k ies tg' k' ies' own, ρ => (evEs T anyD ies ρ).bind fun ds ρ1 => match iterD k ds with
    | none => .stk
    | some items => if !(stills items && ownOk ρ1 own) || (!stills ds && !(quiet elt && quiets ies')) then .stk else
      (loopC2 (fun x ρ acc => match asg tg x (wipeD ρ own) with
        | none => .stk
        | some ρ2 => (evEs T anyD ies' ρ2).bind fun ds' ρ3 => match iterD k' ds' with
          | none => .stk
          | some items' => if !(stills items' && decide (acc.length + items'.length < 16777216)) || !stills ds' then .stk else
            loopC (fun x ρ => match asg tg' x (wipeD ρ (tgSl tg')) with
              | none => .stk
              | some ρ2 => (evE T elt ρ2).bind fun d ρ4 => if isPlace elt && !still d then .stk else .ok (some d) ρ4) items' ρ3 acc) items ρ1 []).bind fun acc ρ5 =>
      .ok (.mls acc) (backD ρ1 ρ5 own)
  | .pop i, ρ => match ρ[i]? with
    | some (some (.mls ds)) => (match ds.getLast? with
      | some d => .ok d (ρ.set i (some (.mls ds.dropLast)))
      | none => .stk)
    | _ => .stk
  | .isx c, ρ => match T.exc with
    | some ⟨x, none⟩ => .ok (.bl (T.sub x c)) ρ
    | _ => .stk
  | .xfld, ρ => match T.exc with
    | some ⟨_, some n⟩ => .ok (.int n) ρ
    | _ => .stk
/-- operands: read, not held -/
def evEs (T : Tab) (k : D → Bool) : List E → Env → R (List D)
  | [], ρ => .ok [] ρ
  | e :: es, ρ => (evE T e ρ).bind fun d ρ1 => if !k d || (!still d && !purs es) then .stk else (evEs T anyD es ρ1).bind fun ds ρ2 => .ok (d :: ds) ρ2
/-- items of a display: held from now on -/
def evCs (T : Tab) : List E → Env → R (List D)
  | [], ρ => .ok [] ρ
  | e :: es, ρ => (evE T e ρ).bind fun d ρ1 => if isPlace e && !still d then .stk else (evCs T es ρ1).bind fun ds ρ2 => .ok (d :: ds) ρ2
/-- arguments: handed on, frozen -/
def evAs (T : Tab) (k : D → Bool) : List E → Env → R (List D)
  | [], ρ => .ok [] ρ
  | .bor a :: es, ρ => (evE T a ρ).bind fun d ρ1 => if !k (Pd.frz d) then .stk else (evAs T anyD es ρ1).bind fun ds ρ2 => .ok (Pd.frz d :: ds) ρ2
  | e :: es, ρ => (evE T e ρ).bind fun d ρ1 => if (isPlace e && !still d) || !k (Pd.frz d) then .stk else (evAs T anyD es ρ1).bind fun ds ρ2 => .ok (Pd.frz d :: ds) ρ2
def evIfs (T : Tab) : List E → Env → R Bool
  | [], ρ => .ok true ρ
  | [c], ρ => (evE T c ρ).bind fun d ρ' => R.of (truth d) ρ'
  | _, _ => .stk
end

/-! ### statements -/
def loopF (f : D → Env → RS) : List D → Env → RS
  | [], ρ => .nx ρ
  | x :: xs, ρ => match f x ρ with
    | .nx ρ' => loopF f xs ρ'
    | .ct ρ' => loopF f xs ρ'
    | .bk ρ' => .nx ρ'
    | .rt d ρ' => .rt d ρ'
    | .ex x ρ' => .ex x ρ'
    | .stk => .stk
def loopW (c : Env → R Bool) (f : Env → RS) : Nat → Env → RS
  | 0, _ => .stk
  | n + 1, ρ => match c ρ with
    | .ok true ρ1 => (match f ρ1 with
      | .nx ρ' => loopW c f n ρ'
      | .ct ρ' => loopW c f n ρ'
      | .bk ρ' => .nx ρ'
      | .rt d ρ' => .rt d ρ'
      | .ex x ρ' => .ex x ρ'
      | .stk => .stk)
    | .ok false ρ1 => .nx ρ1
    | .exn x ρ1 => .ex x ρ1
    | .stk => .stk
def R.st {α : Type} (r : R α) (f : α → Env → RS) : RS := match r with
  | .ok a ρ => f a ρ
  | .exn x ρ => .ex x ρ
  | .stk => .stk
def RS.of (o : Option Env) : RS := match o with
  | some ρ => .nx ρ
  | none => .stk
/-- held from now on -/
def evC (T : Tab) (e : E) (ρ : Env) : R D := (evE T e ρ).bind fun d ρ1 => if isPlace e && !still d then .stk else .ok d ρ1
def evT (T : Tab) (e : E) (ρ : Env) : R Bool := (evE T e ρ).bind fun d ρ1 => R.of (truth d) ρ1
/-- the item of a changeable list that is set -/
def setL (d : D) (k : Int) (v : D) : Option D := match d with
  | .mls ds => (ixD ds.length k).map fun j => .mls (ds.set j v)
  | _ => none
def appL (d v : D) : Option D := match d with
  | .mls ds => if lineLt ds then some (.mls (ds ++ [v])) else none
  | _ => none
/-- the steps of a place, reckoned -/
inductive Stq where
  | f (n : Str) | ix (j : Nat)
/-- a place within a value that may be changed -/
def getP : D → List Stq → Option D
  | d, [] => some d
  | .mns _ ns ds, .f n :: p => (lookF n ns ds).bind fun d => getP d p
  | .mls ds, .ix j :: p => (ds[j]?).bind fun d => getP d p
  | .tup ds, .ix j :: p => (ds[j]?).bind fun d => getP d p
  | _, _ => none
def setP : D → List Stq → D → D
  | _, [], v => v
  | .mns c ns ds, .f n :: p, v => match lookF n ns ds with
    | some d => .mns c (putFd n (setP d p v) ns ds).1 (putFd n (setP d p v) ns ds).2
    | none => .mns c ns ds
  | .mls ds, .ix j :: p, v => match ds[j]? with
    | some d => .mls (ds.set j (setP d p v))
    | none => .mls ds
  | .tup ds, .ix j :: p, v => match ds[j]? with
    | some d => .tup (ds.set j (setP d p v))
    | none => .tup ds
  | d, _, _ => d
/-- the place as an expression -/
def plE : E → List Stp → E
  | a, [] => a
  | a, .f n :: p => plE (.fld a n) p
  | a, .ix e :: p => plE (.ix a e) p
def pureP : List Stp → Bool
  | [] => true
  | .f _ :: p => pureP p
  | .ix e :: p => pur e && pureP p
/-- reckon the steps: the indexes are pur -/
def stq (T : Tab) (ρ : Env) : D → List Stp → Option (List Stq)
  | _, [] => some []
  | .mns _ ns ds, .f n :: p => (lookF n ns ds).bind fun d => (stq T ρ d p).map (.f n :: ·)
  | .mls ds, .ix e :: p => match evE T e ρ with
    | .ok (.int k) _ => (ixD ds.length k).bind fun j => (ds[j]?).bind fun d => (stq T ρ d p).map (.ix j :: ·)
    | _ => none
  | .tup ds, .ix e :: p => match evE T e ρ with
    | .ok (.int k) _ => (ixD ds.length k).bind fun j => (ds[j]?).bind fun d => (stq T ρ d p).map (.ix j :: ·)
    | _ => none
  | _, _ => none
/-- change what stands at a place -/
def updP (T : Tab) (ρ : Env) (i : Nat) (p : List Stp) (g : D → Option D) : Option Env :=
  if pureP p then match ρ[i]? with
  | some (some d) => (stq T ρ d p).bind fun q => (getP d q).bind fun x => (g x).map fun y => ρ.set i (some (setP d q y))
  | _ => none
  else none
def isL : Option (Option D) → Bool
  | some (some (.mls _)) => true
  | _ => false
def ofR {α : Type} : R α → Option α
  | .ok a _ => some a
  | _ => none
def nilE : Env := []
mutual
def evS (T : Tab) : S → Env → RS
  | .asg tg e, ρ => (evC T e ρ).st fun d ρ1 => RS.of (asg tg d ρ1)
  | .aug i o e, ρ => match ρ[i]? with
    | some (some x) => if pur e then (evE T e ρ).st fun y ρ1 => (match x, y with
      | .int _, .int _ => RS.of ((opD o [x, y]).map fun z => ρ1.set i (some z))
      | .str _, .str _ => (match o with
        | .add => RS.of ((opD o [x, y]).map fun z => ρ1.set i (some z))
        | _ => .stk)
      | _, _ => .stk) else .stk
    | _ => .stk
  | .ext i e, ρ => (evE T e ρ).st fun y ρ1 => match ρ1[i]? with
    | some (some (.mls xs)) => (match y with
      | .mls ys => if (!isPlace e) && (stills ys && decide (xs.length + ys.length ≤ 16777216)) then .nx (ρ1.set i (some (.mls (xs ++ ys)))) else .stk
      | _ => .stk)
    | _ => .stk
  | .setix i p k e, ρ => (evC T e ρ).st fun v ρ1 => if pur k then (match evE T k ρ1 with
    | .ok (.int k) _ => RS.of (updP T ρ1 i p fun d => setL d k v)
    | _ => .stk) else .stk
  | .augix i o k e, ρ => if pur k && pur e then (match ρ[i]?, evE T k ρ with
    | some (some (.mls ds)), .ok (.int kk) _ => (match atD ds kk, evE T e ρ with
      | some (.int x), .ok (.int y) _ => (match opD o [.int x, .int y] with
        | some z => RS.of ((setL (.mls ds) kk z).map fun d => ρ.set i (some d))
        | none => .stk)
      | _, _ => .stk)
    | _, _ => .stk) else .stk
  | .setfld i f e, ρ => (evC T e ρ).st fun v ρ1 => match ρ1[i]? with
    | some (some (.mns c ns ds)) => if T.flds.contains (c, f) && decide (ns.length < 900) then .nx (ρ1.set i (some (.mns c (putFd f v ns ds).1 (putFd f v ns ds).2))) else .stk
    | _ => .stk
  | .app i e, ρ => if !isL ρ[i]? then .stk else (evC T e ρ).st fun v ρ1 => match ρ1[i]? with
    | some (some d) => RS.of ((appL d v).map fun d' => ρ1.set i (some d'))
    | _ => .stk
  | .appP i p e, ρ => if pur e && (updP T ρ i p fun d => appL d .non).isSome then (evC T e ρ).st fun v ρ1 => RS.of (updP T ρ1 i p fun d => appL d v) else .stk
  | .dput i k e, ρ => (evC T e ρ).st fun v ρ1 => if pur k then (evE T k ρ1).st fun kk ρ2 => match ρ2[i]? with
    | some (some (.mdc t ks vs)) => if keyOk t kk && (still v && lineLt ks) then .nx (ρ2.set i (some (.mdc t (putD kk v ks vs).1 (putD kk v ks vs).2))) else .stk
    | _ => .stk else .stk
  | .expr e, ρ => (evE T e ρ).st fun _ ρ1 => .nx ρ1
  | .ret e, ρ => (evC T e ρ).st fun d ρ1 => .rt d ρ1
  | .retN, ρ => .rt .non ρ
  | .pass, ρ => .nx ρ
  | .brk, ρ => .bk ρ
  | .cnt, ρ => .ct ρ
  | .ifs c a b, ρ => (evT T c ρ).st fun t ρ1 => if t then evB T a ρ1 else evB T b ρ1
  | .fors tg k ies body, ρ => (evEs T anyD ies ρ).st fun ds ρ1 => match iterD k ds with
    | none => .stk
    | some items => if !stills items || (!stills ds && !quietB body) then .stk else
      loopF (fun x ρ => match asg tg x ρ with
        | none => .stk
        | some ρ2 => evB T body ρ2) items ρ1
  | .whl n c body, ρ => loopW (evT T c) (evB T body) n ρ
  | .raise c e, ρ => match e with
    | none => .ex ⟨c, none⟩ ρ
    | some e => (evE T e ρ).st fun d ρ1 => match d with
      | .int n => .ex ⟨c, some n⟩ ρ1
      | _ => .stk
  | .try body hs, ρ => match evB T body ρ with
    | .ex x ρ1 => evH T x hs ρ1
    | r => r
def evB (T : Tab) : List S → Env → RS
  | [], ρ => .nx ρ
  | s :: ss, ρ => match evS T s ρ with
    | .nx ρ' => evB T ss ρ'
    | .rt d ρ' => .rt d ρ'
    | .bk ρ' => .bk ρ'
    | .ct ρ' => .ct ρ'
    | .ex x ρ' => .ex x ρ'
    | .stk => .stk
def evH (T : Tab) (x : Exn) : List (Nat × Option Nat × List S) → Env → RS
  | [], ρ => .ex x ρ
  | (c, some i, ss) :: hs, ρ => if T.sub x.c c then (if i < ρ.length then match evB { T with exc := some x } ss (ρ.set i none) with
    | .nx ρ' => .nx (ρ'.set i none)
    | .bk ρ' => .bk (ρ'.set i none)
    | .ct ρ' => .ct (ρ'.set i none)
    | .rt d ρ' => .rt d ρ'
    | .ex _ _ => .stk
    | .stk => .stk
    else .stk) else evH T x hs ρ
  | (c, none, ss) :: hs, ρ => if T.sub x.c c then (match evB { T with exc := some x } ss ρ with
    | .ex _ _ => .stk
    | r => r) else evH T x hs ρ
end
/-- a def: its table, the number of its parameters and of its slots, which parameters it may change, its body -/
def runF (T : Tab) (np n : Nat) (mu : List Nat) (body : List S) (ds : List D) : RF :=
  if ds.length = np then match evB T body (ds.map some ++ List.replicate (n - np) none) with
  | .rt d ρ => (match mu.mapM fun i => ρ[i]?.getD none with
    | some ms => .ok d ms
    | none => .stk)
  | .nx ρ => (match mu.mapM fun i => ρ[i]?.getD none with
    | some ms => .ok .non ms
    | none => .stk)
  | .ex x _ => .exn x
  | _ => .stk
  else .stk
end Pd

set_option Elab.async false
set_option linter.all false
set_option maxRecDepth 100000
set_option maxHeartbeats 1000000
/-! PdB: a value of the heap stands for data (Rep); what changes (Ext). -/
namespace Pd
open PySem PySem.Spec PyProof.Rows L2

/-- what stays the same through the law -/
structure Gx where
  P : Program
  w : World
  K : PySem.W.Frag
  mg : Str → Option Value
  base : Heap
  cad : Nat → Addr
  fldn : Nat → Str
  exs : List Nat

def keyD : D → Option Key
  | .int i => some (.inl i)
  | .str s => some (.inr s)
  | _ => none
def keysD : List D → Option (List Key)
  | [] => some []
  | d :: ds => match keyD d, keysD ds with
    | some k, some ks => some (k :: ks)
    | _, _ => none
def tkeyD : D → Option (List Key)
  | .tup ds => keysD ds
  | _ => none
def tkeysD : List D → Option (List (List Key))
  | [] => some []
  | d :: ds => match tkeyD d, tkeysD ds with
    | some k, some ks => some (k :: ks)
    | _, _ => none
def dctObj (t : Bool) (ks : List D) (ws : List V) (o : HO) : Prop := match t with
  | false => ∃ kk, keysD ks = some kk ∧ kk.length = ws.length ∧ o = .dK (kk.zip ws)
  | true => ∃ kk, tkeysD ks = some kk ∧ kk.length = ws.length ∧ o = .dT (kk.zip ws)

mutual
/-- v stands for d: what is still is told by Z, what may be changed by H; fp: the objects that may be changed -/
def Rep (G : Gx) (Z H : Hp) : D → V → List Addr → Prop
  | .non, v, fp => v = .non ∧ fp = []
  | .bl b, v, fp => v = .bl b ∧ fp = []
  | .int i, v, fp => v = .int i ∧ fp = []
  | .str x, v, fp => v = .str x ∧ fp = []
  | .tup ds, v, fp => ∃ a vs, v = .ref a ∧ Z a = some (.tup vs) ∧ Reps G Z H ds vs fp
  | .lst ds, v, fp => ∃ a vs, v = .ref a ∧ Rd Z a (.lst vs) ∧ Reps G Z H ds vs [] ∧ fp = []
  | .ins c ns ds, v, fp => ∃ a dx vs, v = .ref a ∧ Z a = some (.ins (G.cad c) dx (ns.zip vs)) ∧ ns.length = ds.length ∧ Reps G Z H ds vs [] ∧ fp = []
  | .dct t ks ds, v, fp => ∃ a vs o, v = .ref a ∧ Z a = some o ∧ dctObj t ks vs o ∧ Reps G Z H ds vs [] ∧ fp = []
  | .mls ds, v, fp => ∃ a vs f, v = .ref a ∧ H a = some (.lst vs) ∧ Z a = none ∧ Reps G Z H ds vs f ∧ fp = a :: f
  | .mns c ns ds, v, fp => ∃ a dx vs f, v = .ref a ∧ H a = some (.ins (G.cad c) dx (ns.zip vs)) ∧ Z a = none ∧ ns.length = ds.length ∧ Reps G Z H ds vs f ∧ fp = a :: f
  | .mdc t ks ds, v, fp => ∃ a vs o, v = .ref a ∧ H a = some o ∧ Z a = none ∧ dctObj t ks vs o ∧ Reps G Z H ds vs [] ∧ fp = [a]
def Reps (G : Gx) (Z H : Hp) : List D → List V → List Addr → Prop
  | [], vs, fp => vs = [] ∧ fp = []
  | d :: ds, vs, fp => ∃ v r f1 f2, vs = v :: r ∧ Rep G Z H d v f1 ∧ Reps G Z H ds r f2 ∧ fp = f1 ++ f2
end
def isDct : HO → Prop
  | .dK _ => True
  | .dT _ => True
  | _ => False
/-- Z holds in H (a dict may be locked) -/
def Sub (Z H : Hp) : Prop := ∀ a o, Z a = some o → H a = some o ∨ (isDct o ∧ ∃ od, H a = some (.frz od o))

section
variable {G : Gx} {Z H Z' H' : Hp}
theorem Same.none {Z Z' : Hp} (s : L2.Same Z Z') {a : Addr} (h : Z' a = Option.none) : Z a = Option.none := s.free h
theorem SqT.mono {K : PySem.W.Frag} {a : Addr} {xs : List V} (s : L2.Same Z Z') (h : SqT K Z a xs) : SqT K Z' a xs := by
  rcases h with (h | ⟨o, h⟩) | h
  · exact .inl (.inl (s _ _ h))
  · exact .inl (.inr ⟨o, s _ _ h⟩)
  · exact .inr h
theorem SqL.mono {K : PySem.W.Frag} {a : Addr} {xs : List V} (s : L2.Same Z Z') (h : SqL K Z a xs) : SqL K Z' a xs := by
  rcases h with (h | ⟨o, h⟩) | h
  · exact .inl (.inl (s _ _ h))
  · exact .inl (.inr ⟨o, s _ _ h⟩)
  · exact .inr h
theorem SqT.up {K : PySem.W.Frag} {a : Addr} {xs : List V} (s : Sub Z H) (h : Z a = some (.tup xs)) : SqT K H a xs := by
  rcases s _ _ h with q | ⟨q, _⟩
  · exact SqT.of q
  · exact q.elim
theorem tup_up {a : Addr} {xs : List V} (s : Sub Z H) (h : Z a = some (.tup xs)) : H a = some (.tup xs) := by
  rcases s _ _ h with q | ⟨q, _⟩
  · exact q
  · exact q.elim
theorem rd_mono {a : Addr} {xs : List V} (s : L2.Same Z Z') (h : Rd Z a (.lst xs)) : Rd Z' a (.lst xs) := by
  rcases h with h | ⟨o, h⟩
  · exact .inl (s _ _ h)
  · exact .inr ⟨o, s _ _ h⟩
theorem rd_up {a : Addr} {xs : List V} (s : Sub Z H) (h : Rd Z a (.lst xs)) : Rd H a (.lst xs) := by
  rcases h with h | ⟨o, h⟩
  · rcases s _ _ h with q | ⟨q, _⟩
    · exact .inl q
    · exact q.elim
  · rcases s _ _ h with q | ⟨q, _⟩
    · exact .inr ⟨o, q⟩
    · exact q.elim
theorem SqL.up {K : PySem.W.Frag} {a : Addr} {xs : List V} (s : Sub Z H) (h : SqL K Z a xs) : SqL K H a xs := by
  rcases h with (h | ⟨o, h⟩) | h
  · rcases s _ _ h with q | ⟨q, _⟩
    · exact .inl (.inl q)
    · exact q.elim
  · rcases s _ _ h with q | ⟨q, _⟩
    · exact .inl (.inr ⟨o, q⟩)
    · exact q.elim
  · exact .inr h
mutual
theorem Rep.mono (zz : L2.Same Z Z') : ∀ (d : D) (v : V) (fp : List Addr), (∀ a ∈ fp, (∀ o, H a = some o → H' a = some o) ∧ Z' a = none) → Rep G Z H d v fp → Rep G Z' H' d v fp
  | .non, _, _, _, h => h
  | .bl _, _, _, _, h => h
  | .int _, _, _, _, h => h
  | .str _, _, _, _, h => h
  | .tup ds, v, fp, k, h => by
    obtain ⟨a, vs, e, s, r⟩ := h
    exact ⟨a, vs, e, zz _ _ s, Reps.mono zz ds vs fp k r⟩
  | .lst ds, v, fp, k, h => by
    obtain ⟨a, vs, e, s, r, q⟩ := h
    exact ⟨a, vs, e, rd_mono zz s, Reps.mono zz ds vs [] (fun _ hb => nomatch hb) r, q⟩
  | .ins c ns ds, v, fp, k, h => by
    obtain ⟨a, dx, vs, e, s, l, r, q⟩ := h
    exact ⟨a, dx, vs, e, zz _ _ s, l, Reps.mono zz ds vs [] (fun _ hb => nomatch hb) r, q⟩
  | .dct t ks ds, v, fp, k, h => by
    obtain ⟨a, vs, o, e, s, l, r, q⟩ := h
    exact ⟨a, vs, o, e, zz _ _ s, l, Reps.mono zz ds vs [] (fun _ hb => nomatch hb) r, q⟩
  | .mls ds, v, fp, k, h => by
    obtain ⟨a, vs, f, e, s, z, r, q⟩ := h
    subst q
    exact ⟨a, vs, f, e, (k a List.mem_cons_self).1 _ s, (k a List.mem_cons_self).2, Reps.mono zz ds vs f (fun b hb => k b (List.mem_cons_of_mem _ hb)) r, rfl⟩
  | .mns c ns ds, v, fp, k, h => by
    obtain ⟨a, dx, vs, f, e, s, z, l, r, q⟩ := h
    subst q
    exact ⟨a, dx, vs, f, e, (k a List.mem_cons_self).1 _ s, (k a List.mem_cons_self).2, l, Reps.mono zz ds vs f (fun b hb => k b (List.mem_cons_of_mem _ hb)) r, rfl⟩
  | .mdc t ks ds, v, fp, k, h => by
    obtain ⟨a, vs, o, e, s, z, l, r, q⟩ := h
    subst q
    exact ⟨a, vs, o, e, (k a List.mem_cons_self).1 _ s, (k a List.mem_cons_self).2, l, Reps.mono zz ds vs [] (fun _ hb => nomatch hb) r, rfl⟩
theorem Reps.mono (zz : L2.Same Z Z') : ∀ (ds : List D) (vs : List V) (fp : List Addr), (∀ a ∈ fp, (∀ o, H a = some o → H' a = some o) ∧ Z' a = none) → Reps G Z H ds vs fp → Reps G Z' H' ds vs fp
  | [], _, _, _, h => h
  | d :: ds, vs, fp, k, h => by
    obtain ⟨v, r, f1, f2, e, h1, h2, q⟩ := h
    subst q
    exact ⟨v, r, f1, f2, e, Rep.mono zz d v f1 (fun a ha => k a (List.mem_append_left _ ha)) h1, Reps.mono zz ds r f2 (fun a ha => k a (List.mem_append_right _ ha)) h2, rfl⟩
end
mutual
/-- what may be changed stands in H and not in Z -/
theorem Rep.own : ∀ (d : D) (v : V) (fp : List Addr), Rep G Z H d v fp → ∀ a ∈ fp, Z a = none ∧ ∃ o, H a = some o ∧ Mut (some o) ∧ (∀ od u, o ≠ .frz od u)
  | .non, _, _, ⟨_, q⟩ => fun a ha => by subst q; cases ha
  | .bl _, _, _, ⟨_, q⟩ => fun a ha => by subst q; cases ha
  | .int _, _, _, ⟨_, q⟩ => fun a ha => by subst q; cases ha
  | .str _, _, _, ⟨_, q⟩ => fun a ha => by subst q; cases ha
  | .tup ds, v, fp, h => by
    obtain ⟨a, vs, e, s, r⟩ := h
    exact Reps.own ds vs fp r
  | .lst ds, v, fp, h => by
    obtain ⟨a, vs, e, s, r, q⟩ := h
    subst q
    exact fun _ hb => nomatch hb
  | .ins c ns ds, v, fp, h => by
    obtain ⟨a, dx, vs, e, s, l, r, q⟩ := h
    subst q
    exact fun _ hb => nomatch hb
  | .dct t ks ds, v, fp, h => by
    obtain ⟨a, vs, o, e, s, l, r, q⟩ := h
    subst q
    exact fun _ hb => nomatch hb
  | .mls ds, v, fp, h => by
    obtain ⟨a, vs, f, e, s, z, r, q⟩ := h
    subst q
    intro b hb
    rcases List.mem_cons.mp hb with rfl | hb
    · exact ⟨z, _, s, trivial, fun _ _ q => nomatch q⟩
    · exact Reps.own ds vs f r b hb
  | .mns c ns ds, v, fp, h => by
    obtain ⟨a, dx, vs, f, e, s, z, l, r, q⟩ := h
    subst q
    intro b hb
    rcases List.mem_cons.mp hb with rfl | hb
    · exact ⟨z, _, s, trivial, fun _ _ q => nomatch q⟩
    · exact Reps.own ds vs f r b hb
  | .mdc t ks ds, v, fp, h => by
    obtain ⟨a, vs, o, e, s, z, l, r, q⟩ := h
    subst q
    intro b hb
    rcases List.mem_cons.mp hb with rfl | hb
    · cases t with
      | false => obtain ⟨kk, _, _, rfl⟩ := l; exact ⟨z, _, s, trivial, fun _ _ q => nomatch q⟩
      | true => obtain ⟨kk, _, _, rfl⟩ := l; exact ⟨z, _, s, trivial, fun _ _ q => nomatch q⟩
    · cases hb
theorem Reps.own : ∀ (ds : List D) (vs : List V) (fp : List Addr), Reps G Z H ds vs fp → ∀ a ∈ fp, Z a = none ∧ ∃ o, H a = some o ∧ Mut (some o) ∧ (∀ od u, o ≠ .frz od u)
  | [], _, _, ⟨_, q⟩ => fun a ha => by subst q; cases ha
  | d :: ds, vs, fp, h => by
    obtain ⟨v, r, f1, f2, e, h1, h2, q⟩ := h
    subst q
    intro a ha
    rcases List.mem_append.mp ha with ha | ha
    · exact Rep.own d v f1 h1 a ha
    · exact Reps.own ds r f2 h2 a ha
end
theorem andB {a b : Bool} (h : (a && b) = true) : a = true ∧ b = true := Bool.and_eq_true_iff.mp h
mutual
theorem Rep.still : ∀ (d : D) (v : V) (fp : List Addr), Pd.still d = true → Rep G Z H d v fp → fp = []
  | .non, _, _, _, ⟨_, q⟩ => q
  | .bl _, _, _, _, ⟨_, q⟩ => q
  | .int _, _, _, _, ⟨_, q⟩ => q
  | .str _, _, _, _, ⟨_, q⟩ => q
  | .tup ds, v, fp, s, h => by
    obtain ⟨a, vs, e, _, r⟩ := h
    exact Reps.still ds vs fp s r
  | .lst ds, v, fp, s, h => by
    obtain ⟨a, vs, e, _, r, q⟩ := h
    exact q
  | .ins c ns ds, v, fp, s, h => by
    obtain ⟨a, dx, vs, e, _, l, r, q⟩ := h
    exact q
  | .dct t ks ds, v, fp, s, h => by
    obtain ⟨a, vs, o, e, _, l, r, q⟩ := h
    exact q
  | .mls ds, v, fp, s, h => by cases s
  | .mns c ns ds, v, fp, s, h => by cases s
  | .mdc t ks ds, v, fp, s, h => by cases s
theorem Reps.still : ∀ (ds : List D) (vs : List V) (fp : List Addr), Pd.stills ds = true → Reps G Z H ds vs fp → fp = []
  | [], _, _, _, ⟨_, q⟩ => q
  | d :: ds, vs, fp, s, h => by
    obtain ⟨v, r, f1, f2, e, h1, h2, q⟩ := h
    obtain ⟨s1, s2⟩ := andB s
    rw [q, Rep.still d v f1 s1 h1, Reps.still ds r f2 s2 h2]
    rfl
end
/-- what is still is told by Z alone -/
theorem Rep.keep (zz : L2.Same Z Z') {d : D} {v : V} {fp : List Addr} (h : Rep G Z H d v fp) (s : Pd.still d = true) : Rep G Z' H' d v [] := by
  have e := Rep.still d v fp s h
  subst e
  exact Rep.mono zz d v [] (fun _ hb => nomatch hb) h
theorem Reps.keep (zz : L2.Same Z Z') {d : List D} {v : List V} {fp : List Addr} (h : Reps G Z H d v fp) (s : Pd.stills d = true) : Reps G Z' H' d v [] := by
  have e := Reps.still d v fp s h
  subst e
  exact Reps.mono zz d v [] (fun _ hb => nomatch hb) h
/-- the objects at fp, frozen -/
def fz (Z H : Hp) (fp : List Addr) : Hp := fun a => if a ∈ fp then H a else Z a
theorem fz_same {fp : List Addr} (h : ∀ a ∈ fp, Z a = none) : L2.Same Z (fz Z H fp) := fun a o e => by
  unfold fz
  by_cases ha : a ∈ fp
  · rw [h a ha] at e; cases e
  · rw [if_neg ha]; exact e
theorem fz_at {fp : List Addr} {a : Addr} (ha : a ∈ fp) : fz Z H fp a = H a := if_pos ha
mutual
theorem Rep.frz : ∀ (d : D) (v : V) (fp : List Addr), Rep G Z H d v fp → L2.Same Z Z' → (∀ a ∈ fp, Z' a = H a) → Rep G Z' H' (Pd.frz d) v []
  | .non, _, _, ⟨e, _⟩, _, _ => ⟨e, rfl⟩
  | .bl _, _, _, ⟨e, _⟩, _, _ => ⟨e, rfl⟩
  | .int _, _, _, ⟨e, _⟩, _, _ => ⟨e, rfl⟩
  | .str _, _, _, ⟨e, _⟩, _, _ => ⟨e, rfl⟩
  | .tup ds, v, fp, h, zz, k => by
    obtain ⟨a, vs, e, s, r⟩ := h
    exact ⟨a, vs, e, zz _ _ s, Reps.frz ds vs fp r zz k⟩
  | .lst ds, v, fp, h, zz, k => by
    obtain ⟨a, vs, e, s, r, q⟩ := h
    exact ⟨a, vs, e, rd_mono zz s, Reps.frz ds vs [] r zz (fun _ hb => nomatch hb), rfl⟩
  | .ins c ns ds, v, fp, h, zz, k => by
    obtain ⟨a, dx, vs, e, s, l, r, q⟩ := h
    exact ⟨a, dx, vs, e, zz _ _ s, l.trans (frzs_len ds).symm, Reps.frz ds vs [] r zz (fun _ hb => nomatch hb), rfl⟩
  | .dct t ks ds, v, fp, h, zz, k => by
    obtain ⟨a, vs, o, e, s, l, r, q⟩ := h
    exact ⟨a, vs, o, e, zz _ _ s, dctObj_frz l, Reps.frz ds vs [] r zz (fun _ hb => nomatch hb), rfl⟩
  | .mls ds, v, fp, h, zz, k => by
    obtain ⟨a, vs, f, e, s, z, r, q⟩ := h
    subst q
    exact ⟨a, vs, e, .inl ((k a List.mem_cons_self).trans s), Reps.frz ds vs f r zz (fun b hb => k b (List.mem_cons_of_mem _ hb)), rfl⟩
  | .mns c ns ds, v, fp, h, zz, k => by
    obtain ⟨a, dx, vs, f, e, s, z, l, r, q⟩ := h
    subst q
    exact ⟨a, dx, vs, e, (k a List.mem_cons_self).trans s, l.trans (frzs_len ds).symm, Reps.frz ds vs f r zz (fun b hb => k b (List.mem_cons_of_mem _ hb)), rfl⟩
  | .mdc t ks ds, v, fp, h, zz, k => by
    obtain ⟨a, vs, o, e, s, z, l, r, q⟩ := h
    subst q
    exact ⟨a, vs, o, e, (k a List.mem_cons_self).trans s, dctObj_frz l, Reps.frz ds vs [] r zz (fun _ hb => nomatch hb), rfl⟩
theorem Reps.frz : ∀ (ds : List D) (vs : List V) (fp : List Addr), Reps G Z H ds vs fp → L2.Same Z Z' → (∀ a ∈ fp, Z' a = H a) → Reps G Z' H' (frzs ds) vs []
  | [], _, _, ⟨e, _⟩, _, _ => ⟨e, rfl⟩
  | d :: ds, vs, fp, h, zz, k => by
    obtain ⟨v, r, f1, f2, e, h1, h2, q⟩ := h
    subst q
    exact ⟨v, r, [], [], e, Rep.frz d v f1 h1 zz (fun a ha => k a (List.mem_append_left _ ha)), Reps.frz ds r f2 h2 zz (fun a ha => k a (List.mem_append_right _ ha)), rfl⟩
theorem frzs_len : ∀ ds : List D, (frzs ds).length = ds.length
  | [] => rfl
  | d :: ds => congrArg (· + 1) (frzs_len ds)
theorem keyD_frz : ∀ d : D, keyD (Pd.frz d) = keyD d
  | .non => rfl | .bl _ => rfl | .int _ => rfl | .str _ => rfl | .tup _ => rfl | .lst _ => rfl | .ins _ _ _ => rfl | .dct _ _ _ => rfl | .mls _ => rfl | .mns _ _ _ => rfl | .mdc _ _ _ => rfl
theorem keysD_frz : ∀ ds : List D, keysD (frzs ds) = keysD ds
  | [] => rfl
  | d :: ds => by
    show (match keyD (Pd.frz d), keysD (frzs ds) with | some k, some ks => some (k :: ks) | _, _ => none) = (match keyD d, keysD ds with | some k, some ks => some (k :: ks) | _, _ => none)
    rw [keyD_frz d, keysD_frz ds]
theorem tkeyD_frz : ∀ d : D, tkeyD (Pd.frz d) = tkeyD d
  | .non => rfl | .bl _ => rfl | .int _ => rfl | .str _ => rfl | .tup ds => keysD_frz ds | .lst _ => rfl | .ins _ _ _ => rfl | .dct _ _ _ => rfl | .mls _ => rfl | .mns _ _ _ => rfl | .mdc _ _ _ => rfl
theorem tkeysD_frz : ∀ ds : List D, tkeysD (frzs ds) = tkeysD ds
  | [] => rfl
  | d :: ds => by
    show (match tkeyD (Pd.frz d), tkeysD (frzs ds) with | some k, some ks => some (k :: ks) | _, _ => none) = (match tkeyD d, tkeysD ds with | some k, some ks => some (k :: ks) | _, _ => none)
    rw [tkeyD_frz d, tkeysD_frz ds]
theorem dctObj_frz {t : Bool} {ks : List D} {ws : List V} {o : HO} (h : dctObj t ks ws o) : dctObj t (frzs ks) ws o := by
  cases t with
  | false =>
    obtain ⟨kk, h1, h2, h3⟩ := h
    exact ⟨kk, (keysD_frz ks).trans h1, h2, h3⟩
  | true =>
    obtain ⟨kk, h1, h2, h3⟩ := h
    exact ⟨kk, (tkeysD_frz ks).trans h1, h2, h3⟩
end
end
end Pd

set_option Elab.async false
set_option linter.all false
set_option maxRecDepth 100000
set_option maxHeartbeats 1000000
/-! PdC: slots, what an expression's data are worth, the look at a text. -/
namespace Pd
open PySem PySem.Spec PyProof.Rows L2

/-! ### slots -/
abbrev Fp := Nat → List Addr
def InF (F : Fp) (a : Addr) : Prop := ∃ i, a ∈ F i
def F0 : Fp := fun _ => []
structure EnvR (G : Gx) (ex : Option (Nat × V)) (Z H : Hp) (σ : L2.St) (ρ : Env) (F : Fp) : Prop where
  len : ρ.length = σ.length
  at_ : ∀ i d, ρ[i]? = some (some d) → ∃ v, σ[i]? = some (some v) ∧ Rep G Z H d v (F i)
  off : ∀ i, (∀ d, ρ[i]? ≠ some (some d)) → F i = []
  nd : ∀ i, (F i).Nodup
  dj : ∀ i j a, a ∈ F i → a ∈ F j → i = j
  sub : Sub Z H
  exs : ∀ i a, ex = some (i, a) → σ[i]? = some (some a)
section
variable {G : Gx} {ex : Option (Nat × V)} {Z H Z' H' : Hp} {σ : L2.St} {ρ : Env} {F : Fp}
theorem EnvR.owned (e : EnvR G ex Z H σ ρ F) {a : Addr} (h : InF F a) : Z a = none ∧ ∃ o, H a = some o ∧ Mut (some o) ∧ (∀ od u, o ≠ .frz od u) := by
  obtain ⟨i, ha⟩ := h
  cases hq : ρ[i]? with
  | none =>
    rw [e.off i (fun d q => by rw [hq] at q; cases q)] at ha
    cases ha
  | some x =>
    cases x with
    | none =>
      rw [e.off i (fun d q => by rw [hq] at q; cases q)] at ha
      cases ha
    | some d =>
      obtain ⟨v, _, r⟩ := e.at_ i d hq
      exact Rep.own d v _ r a ha
/-- the slots stand as they stood, in a later heap -/
theorem EnvR.mono (e : EnvR G ex Z H σ ρ F) (zz : L2.Same Z Z') (k : ∀ a, InF F a → (∀ o, H a = some o → H' a = some o) ∧ Z' a = none) (s : Sub Z' H') : EnvR G ex Z' H' σ ρ F :=
  ⟨e.len, fun i d q => by
    obtain ⟨v, h1, h2⟩ := e.at_ i d q
    exact ⟨v, h1, Rep.mono zz d v _ (fun a ha => k a ⟨i, ha⟩) h2⟩, e.off, e.nd, e.dj, s, e.exs⟩
end

/-- what changed: q: nothing that stood; else what P holds alone -/
structure Ext (q : Bool) (Z H : Hp) (P : Addr → Prop) (Z' H' : Hp) (P' : Addr → Prop) : Prop where
  zz : L2.Same Z Z'
  fr : ∀ a o, H a = some o → (q = true ∨ ¬ P a) → H' a = some o
  nz : ∀ a o, Z' a = some o → Z a = none → P a ∨ H a = none
  np : ∀ a, P' a → P a ∨ H a = none
section
variable {q : Bool} {Z H Z1 H1 Z2 H2 : Hp} {P P1 P2 : Addr → Prop}
theorem Ext.refl : Ext q Z H P Z H P := ⟨L2.Same.refl _, fun _ _ e _ => e, fun a o e n => (by rw [n] at e; cases e), fun _ h => .inl h⟩
theorem Ext.trans (x : Ext q Z H P Z1 H1 P1) (y : Ext q Z1 H1 P1 Z2 H2 P2) : Ext q Z H P Z2 H2 P2 where
  zz := x.zz.trans y.zz
  fr := fun a o e h => by
    refine y.fr a o (x.fr a o e h) ?_
    rcases h with h | h
    · exact .inl h
    · refine .inr fun p => ?_
      rcases x.np a p with r | r
      · exact h r
      · rw [e] at r; cases r
  nz := fun a o e n => by
    cases z1 : Z1 a with
    | some u => exact x.nz a u z1 n
    | none =>
      rcases y.nz a o e z1 with r | r
      · exact x.np a r
      · cases h : H a with
        | none => exact .inr rfl
        | some u =>
          refine .inl (Classical.byContradiction fun c => ?_)
          rw [x.fr a u h (.inr c)] at r
          cases r
  np := fun a p => by
    rcases y.np a p with r | r
    · exact x.np a r
    · cases h : H a with
      | none => exact .inr rfl
      | some u =>
        refine .inl (Classical.byContradiction fun c => ?_)
        rw [x.fr a u h (.inr c)] at r
        cases r
theorem Ext.imp {P2' : Addr → Prop} (x : Ext q Z H P Z1 H1 P1) (h : ∀ a, P2' a → P1 a) : Ext q Z H P Z1 H1 P2' := ⟨x.zz, x.fr, x.nz, fun a p => x.np a (h a p)⟩
theorem Ext.wk {q' : Bool} (x : Ext q Z H P Z1 H1 P1) (h : q' = true → q = true) : Ext q' Z H P Z1 H1 P1 := ⟨x.zz, fun a o e k => x.fr a o e (k.imp_left h), x.nz, x.np⟩
end
/-- fresh things alone -/
structure Fr (Z H Z' H' : Hp) : Prop where
  zz : L2.Same Z Z'
  hh : L2.Same H H'
  nz : ∀ a o, Z' a = some o → Z a = none → H a = none
  sub : Sub Z' H'
section
variable {Z H Z' H' Z2 H2 : Hp}
theorem Fr.refl (s : Sub Z H) : Fr Z H Z H := ⟨L2.Same.refl _, L2.Same.refl _, fun a o e n => (by rw [n] at e; cases e), s⟩
theorem Fr.trans (x : Fr Z H Z' H') (y : Fr Z' H' Z2 H2) : Fr Z H Z2 H2 where
  zz := x.zz.trans y.zz
  hh := x.hh.trans y.hh
  nz := fun a o e n => by
    cases z1 : Z' a with
    | some u => exact x.nz a u z1 n
    | none => exact x.hh.free (y.nz a o e z1)
  sub := y.sub
theorem Fr.zfree (x : Fr Z H Z' H') {a : Addr} (z : Z a = none) {o : HO} (h : H a = some o) : Z' a = none := by
  cases q : Z' a with
  | none => rfl
  | some u =>
    have := x.nz a u q z
    rw [h] at this; cases this
theorem sub_none {a : Addr} (s : Sub Z H) (h : H a = none) : Z a = none := by
  cases q : Z a with
  | none => rfl
  | some o => rcases s a o q with r | ⟨_, od, r⟩ <;> (rw [h] at r; cases r)
theorem sub_upd {a : Addr} {o : HO} (s : Sub Z H) (h : Z a = none) : Sub Z (upd H a o) := fun b u e => by
  have nb : b ≠ a := fun q => by rw [q, h] at e; cases e
  rw [upd_ne nb]
  exact s b u e
theorem sub_both {a : Addr} {o : HO} (s : Sub Z H) (h : H a = none) : Sub (upd Z a o) (upd H a o) := fun b u e => by
  by_cases nb : b = a
  · subst nb
    rw [upd_same] at e ⊢
    exact .inl e
  · rw [upd_ne nb] at e ⊢
    exact s b u e
theorem same_upd {a : Addr} {o : HO} (h : H a = none) : L2.Same H (upd H a o) := fun b u e => by
  rw [upd_ne (ne_of_none e h)]; exact e
/-- a new thing that is held alone -/
theorem Fr.own {a : Addr} {o : HO} (s : Sub Z H) (h : H a = none) : Fr Z H Z (upd H a o) := ⟨L2.Same.refl _, same_upd h, fun b u e n => (by rw [n] at e; cases e), sub_upd s (sub_none s h)⟩
/-- a new thing that stays as it is -/
theorem Fr.new {a : Addr} {o : HO} (s : Sub Z H) (h : H a = none) : Fr Z H (upd Z a o) (upd H a o) where
  zz := same_upd (sub_none s h)
  hh := same_upd h
  nz := fun b u e n => by
    by_cases nb : b = a
    · rw [nb]; exact h
    · rw [upd_ne nb, n] at e
      cases e
  sub := sub_both s h
end
section
variable {G : Gx} {ex : Option (Nat × V)} {Z H Z' H' : Hp} {σ : L2.St} {ρ : Env} {F : Fp} {d : D} {ds : List D} {v : V} {vs : List V} {f : List Addr}
theorem Rep.fr (x : Fr Z H Z' H') (r : Rep G Z H d v f) : Rep G Z' H' d v f := Rep.mono x.zz d v f (fun a ha => ⟨fun o e => x.hh a o e, by
  obtain ⟨z, o, h, _⟩ := Rep.own d v f r a ha
  exact x.zfree z h⟩) r
theorem Reps.fr (x : Fr Z H Z' H') (r : Reps G Z H ds vs f) : Reps G Z' H' ds vs f := Reps.mono x.zz ds vs f (fun a ha => ⟨fun o e => x.hh a o e, by
  obtain ⟨z, o, h, _⟩ := Reps.own ds vs f r a ha
  exact x.zfree z h⟩) r
theorem EnvR.fr (x : Fr Z H Z' H') (e : EnvR G ex Z H σ ρ F) : EnvR G ex Z' H' σ ρ F := e.mono x.zz (fun a ha => ⟨fun o e => x.hh a o e, by
  obtain ⟨z, o, h, _⟩ := e.owned ha
  exact x.zfree z h⟩) x.sub
theorem Fr.ext {q : Bool} {P P' : Addr → Prop} (x : Fr Z H Z' H') (h : ∀ a, P' a → P a ∨ H a = none) : Ext q Z H P Z' H' P' := ⟨x.zz, fun a o e _ => x.hh a o e, fun a o e n => .inr (x.nz a o e n), h⟩
end

/-! ### results -/
def Okk {α : Type} (r : R α) (ko : α → Env → Prop) (kx : Exn → Env → Prop) : Prop := match r with
  | .ok a ρ => ko a ρ
  | .exn x ρ => kx x ρ
  | .stk => False
theorem Okk.bind {α β : Type} {r : R α} {f : α → Env → R β} {ko : β → Env → Prop} {kx : Exn → Env → Prop} (h : Okk (r.bind f) ko kx) : Okk r (fun a ρ => Okk (f a ρ) ko kx) kx := by
  cases r with
  | ok a ρ => exact h
  | exn x ρ => exact h
  | stk => exact h
theorem Okk.imp {α : Type} {r : R α} {ko ko' : α → Env → Prop} {kx kx' : Exn → Env → Prop} (h : Okk r ko kx) (h1 : ∀ a ρ, ko a ρ → ko' a ρ) (h2 : ∀ x ρ, kx x ρ → kx' x ρ) : Okk r ko' kx' := by
  cases r with
  | ok a ρ => exact h1 _ _ h
  | exn x ρ => exact h2 _ _ h
  | stk => exact h
theorem Okk.of {α : Type} {o : Option α} {ρ : Env} {ko : α → Env → Prop} {kx : Exn → Env → Prop} (h : Okk (R.of o ρ) ko kx) : ∃ a, o = some a ∧ ko a ρ := by
  cases o with
  | none => exact h.elim
  | some a => exact ⟨a, rfl, h⟩
/-- what an exception is -/
def ExnIs (G : Gx) (x : Exn) (cls : Value) (dx : Option Addr) (H : Hp) : Prop := x.c ∈ G.exs ∧ cls = .ref (G.cad x.c) ∧ match x.f with
  | none => dx = none
  | some n => ∃ a, dx = some a ∧ H a = some (.xd [(G.fldn x.c, .int n)])
structure EPost (G : Gx) (ex : Option (Nat × V)) (pu qu pl : Bool) (Z H : Hp) (σ : L2.St) (F : Fp) (d : D) (ρ' : Env) (v : V) (Z' H' : Hp) (F' : Fp) (f : List Addr) : Prop where
  env : EnvR G ex Z' H' σ ρ' F'
  rep : Rep G Z' H' d v f
  nd : f.Nodup
  val : pl = false → ∀ a ∈ f, ¬ InF F' a
  plc : pl = true → ∀ a ∈ f, InF F' a
  pur : pu = true → F' = F
  ext : Ext qu Z H (InF F) Z' H' (fun a => InF F' a ∨ a ∈ f)
structure XPost (G : Gx) (ex : Option (Nat × V)) (qu : Bool) (Z H : Hp) (σ σ' : L2.St) (F : Fp) (x : Exn) (ρ' : Env) (cls : Value) (dx : Option Addr) (Z' H' : Hp) (F' : Fp) : Prop where
  env : EnvR G ex Z' H' σ' ρ' F'
  ext : Ext qu Z H (InF F) Z' H' (InF F')
  is : ExnIs G x cls dx H'
def tE (G : Gx) (ex : Option (Nat × V)) (W : WX) (pu qu pl : Bool) (ev : Env → R D) : TE := fun σ H Q => ∃ Z ρ F, EnvR G ex Z H σ ρ F ∧
  Okk (ev ρ) (fun d ρ' => ∀ v Z' H' F' f, EPost G ex pu qu pl Z H σ F d ρ' v Z' H' F' f → Q v H') fun x ρ' => ∀ cls dx Z' H' F', XPost G ex qu Z H σ σ F x ρ' cls dx Z' H' F' → W cls dx σ H'
theorem PE.imp {X : Cx} {e : Expr} {t t' : TE} (h : PE X e t) (k : ∀ σ H Q, t' σ H Q → t σ H Q) : PE X e t' := ⟨fun pins s σ H Q I q => h.run pins s σ H Q I (k σ H Q q)⟩
theorem PT.imp {X : Cx} {e : Expr} {t t' : TT} (h : PT X e t) (k : ∀ σ H Q, t' σ H Q → t σ H Q) : PT X e t' := ⟨fun pins s σ H Q I q => h.run pins s σ H Q I (k σ H Q q)⟩
theorem PA.imp {X : Cx} {e : List Expr} {t t' : TA} (h : PA X e t) (k : ∀ σ H Q, t' σ H Q → t σ H Q) : PA X e t' := ⟨fun pos pins s σ H Q I q => h.run pos pins s σ H Q I (k σ H Q q)⟩
theorem PS.imp {X : Cx} {e : Stmt} {t t' : TS} (h : PS X e t) (k : ∀ D σ H, t' D σ H → t D σ H) : PS X e t' := ⟨fun pins s σ H D I q => h.run pins s σ H D I (k D σ H q)⟩
theorem PSs.imp {X : Cx} {e : List Stmt} {t t' : TS} (h : PSs X e t) (k : ∀ D σ H, t' D σ H → t D σ H) : PSs X e t' := ⟨fun pins s σ H D I q => h.run pins s σ H D I (k D σ H q)⟩
theorem PE.or {X : Cx} {e : Expr} {t u : TE} (h : PE X e t) (k : PE X e u) : PE X e (fun σ H Q => t σ H Q ∨ u σ H Q) := ⟨fun pins s σ H Q I q => q.elim (h.run pins s σ H Q I) (k.run pins s σ H Q I)⟩
theorem PS.or {X : Cx} {e : Stmt} {t u : TS} (h : PS X e t) (k : PS X e u) : PS X e (fun D σ H => t D σ H ∨ u D σ H) := ⟨fun pins s σ H D I q => q.elim (h.run pins s σ H D I) (k.run pins s σ H D I)⟩
/-- what was asked first stands while more is asked -/
theorem EPost.later {G : Gx} {ex : Option (Nat × V)} {pu qu pl pu' qu' pl' : Bool} {Z H Z1 H1 Z2 H2 : Hp} {σ : L2.St} {F F1 F2 : Fp} {d d' : D} {ρ ρ1 ρ2 : Env} {v v' : V} {f f' : List Addr}
    (x : EPost G ex pu qu pl Z H σ F d ρ1 v Z1 H1 F1 f) (y : EPost G ex pu' qu' pl' Z1 H1 σ F1 d' ρ2 v' Z2 H2 F2 f') (h : still d = true ∨ (pu' = true ∧ qu' = true)) : Rep G Z2 H2 d v f := by
  rcases h with h | ⟨h, h'⟩
  · have := Rep.still d v f h x.rep
    subst this
    exact x.rep.keep y.ext.zz h
  · refine Rep.mono y.ext.zz d v f (fun a ha => ?_) x.rep
    obtain ⟨z1, o, h1, _⟩ := Rep.own d v f x.rep a ha
    refine ⟨fun u e => y.ext.fr a u e (.inl h'), ?_⟩
    by_cases hf : InF F1 a
    · exact (y.env.owned (by rw [y.pur h]; exact hf)).1
    · cases q : Z2 a with
      | none => rfl
      | some u =>
        rcases y.ext.nz a u q z1 with r | r
        · exact (hf r).elim
        · rw [h1] at r; cases r

/-! ### the look at a text -/
inductive FnI where
  | fn (x : Str) | meth (c : Nat) (m : Str) | prop (c : Nat) (m : Str)
  deriving Inhabited
structure Ck where
  N : List Str
  sc : Scope
  own : Scope
  hot : Bool := false
  top : Bool := true
  fns : List FnI := []
  cls : List (Nat × Str) := []
  gls : List Str := []
  exi : Option Nat := none
  exn : List (Nat × Str) := []
  exh : List (Nat × Str) := []
def visB (sc : Scope) (x : Str) : Bool := match sc.names.lookup x with
  | some .local => true
  | some .cell => true
  | some .free => true
  | _ => false
def locB (sc : Scope) (x : Str) : Bool := match sc.names.lookup x with
  | some .local => true
  | some .cell => true
  | _ => false
def glB (sc : Scope) (x : Str) : Bool := (match sc.names.lookup x with
  | some .globalImplicit => true
  | _ => false) && (!decide (x = "__debug__") && !decide (x = "__name__"))
def slotB (c : Ck) (i : Nat) (x : Str) : Bool := decide (c.N[i]? = some x) && (visB c.sc x && (!decide (x = "__debug__") && !decide (x = "__classdict__")))
def stB (c : Ck) (i : Nat) (x : Str) : Bool := decide (c.N[i]? = some x) && (locB c.sc x && locB c.own x)
theorem visB_ok {sc : Scope} {x : Str} (h : visB sc x = true) : Vis sc x := by
  unfold visB at h
  unfold Vis
  split at h
  · rename_i e; exact .inl e
  · rename_i e; exact .inr (.inl e)
  · rename_i e; exact .inr (.inr e)
  · cases h
theorem locB_ok {sc : Scope} {x : Str} (h : locB sc x = true) : L2.Loc sc x := by
  unfold locB at h
  unfold L2.Loc
  split at h
  · rename_i e; exact .inl e
  · rename_i e; exact .inr e
  · cases h
theorem dbgB {x y : Str} (h : (!decide (x = y)) = true) : (x == y) = false := by
  have : ¬ x = y := by simpa using h
  exact beq_eq_false_iff_ne.mpr this
/-- neither a star nor a slice -/
def plainX : Expr → Bool
  | .Starred _ _ => false
  | .Slice _ _ _ _ => false
  | .Set _ _ _ => false
  | _ => true
/-- a base of an attribute that is no super() -/
def baseX : Expr → Bool
  | .Call _ [] [] _ => false
  | _ => true
theorem base_eq {o : Expr} (h : baseX o = true) (m : Str) (env : PySem.Env) : attributeBase o m env (eval o env) = eval o env := by
  unfold attributeBase
  split
  · cases h
  · rfl
theorem star_eq {e : Expr} (h : plainX e = true) (es : List Expr) (env : PySem.Env) : starEach (e :: es) env = (false, eval e env) :: starEach es env := by
  cases e <;> first | rfl | cases h
theorem plainIx {e : Expr} (h : plainX e = true) : PlainIx e := fun o i => by
  cases e <;> first | rfl | cases h
def allPlain : List Expr → Bool
  | [] => true
  | e :: es => plainX e && allPlain es
theorem back_plain {pos : Pos} (env : PySem.Env) : ∀ {es : List Expr}, allPlain es = true → (backTo pos (starEach es env)).any (·.1) = false
  | [], _ => rfl
  | e :: es, h => by
    obtain ⟨h1, h2⟩ := andB h
    rw [star_eq h1]
    show (false || (backTo pos (starEach es env)).any (·.1)) = false
    rw [back_plain env h2]
    rfl
theorem back_len {pos : Pos} (env : PySem.Env) : ∀ {es : List Expr}, allPlain es = true → (backTo pos (starEach es env)).all (!·.1) = true
  | [], _ => rfl
  | e :: es, h => by
    obtain ⟨h1, h2⟩ := andB h
    rw [star_eq h1]
    show (!false && (backTo pos (starEach es env)).all (!·.1)) = true
    rw [back_len env h2]
    rfl
/-- a method's call on one line -/
theorem eval_meth {o : Expr} {m : Str} {apos pos : Pos} {args : List Expr} {env : PySem.Env} (hb : baseX o = true) (hp : allPlain args = true) (hl : args.length < 20) (hline : (apos.endLine == pos.line) = true) :
    eval (.Call (.Attribute o m apos) args [] pos) env = (do
      let ov ← eval o env
      standAt apos.atName
      let (f, first) ← holding [ov] (getMethod ov m (plainOf o env))
      callWith pos f first (backTo pos (starEach args env)) (backToKw pos (keywordEach [] env))) := by
  have hf : methodCallForm (args.length + ([] : List Keyword).length) (backTo pos (starEach args env)) (backToKw pos (keywordEach [] env)) = true := by
    unfold methodCallForm
    rw [back_len env hp]
    have e : (backToKw pos (keywordEach [] env)) = [] := rfl
    rw [e]
    simp
    omega
  have e : eval (.Call (.Attribute o m apos) args [] pos) env = (do
      let ov ← attributeBase o m env (eval o env)
      standAt apos.atName
      methodCall o m apos pos env ov (args.length + ([] : List Keyword).length) (backTo pos (starEach args env)) (backToKw pos (keywordEach [] env))) := by
    rw [eval]
  rw [e, base_eq hb]
  congr 1
  funext ov
  congr 1
  funext _
  exact mcall_line hf hline
end Pd

set_option Elab.async false
set_option linter.all false
set_option maxRecDepth 100000
set_option maxHeartbeats 2000000
/-! PdD: the operators' rules over data. -/
namespace Pd
open PySem PySem.Spec PyProof.Rows L2

def rD (G : Gx) (o : Op) (vs : List V) (H : Hp) (Q : VK) : Prop := ∃ Z ds fp d, Sub Z H ∧ Reps G Z H ds vs fp ∧ opD o ds = some d ∧
  ∀ v Z' H' f, Fr Z H Z' H' → Rep G Z' H' d v f → f.Nodup → (∀ a ∈ f, H a = none) → Q v H'
section
variable {G : Gx} {X : Cx} {Z H : Hp} {d a b : D} {ds xs ys : List D} {v x y : V} {vs ws : List V} {f f' fp : List Addr}
theorem reps1 (h : Reps G Z H ds [x] fp) : ∃ d f, ds = [d] ∧ Rep G Z H d x f := by
  cases ds with
  | nil => exact nomatch h.1
  | cons d r =>
    obtain ⟨v, r', f1, f2, e, h1, h2, _⟩ := h
    cases e
    cases r with
    | nil => exact ⟨d, f1, rfl, h1⟩
    | cons d' r => obtain ⟨_, _, _, _, e, _⟩ := h2; cases e
theorem reps2 (h : Reps G Z H ds [x, y] fp) : ∃ d e f g, ds = [d, e] ∧ Rep G Z H d x f ∧ Rep G Z H e y g := by
  cases ds with
  | nil => exact nomatch h.1
  | cons d r =>
    obtain ⟨v, r', f1, f2, e, h1, h2, _⟩ := h
    cases e
    obtain ⟨e, g, rfl, h3⟩ := reps1 h2
    exact ⟨d, e, f1, g, rfl, h1, h3⟩
theorem reps3 {z : V} (h : Reps G Z H ds [x, y, z] fp) : ∃ d e c f g k, ds = [d, e, c] ∧ Rep G Z H d x f ∧ Rep G Z H e y g ∧ Rep G Z H c z k := by
  cases ds with
  | nil => exact nomatch h.1
  | cons d r =>
    obtain ⟨v, r', f1, f2, e, h1, h2, _⟩ := h
    cases e
    obtain ⟨e, c, g, k, rfl, h3, h4⟩ := reps2 h2
    exact ⟨d, e, c, f1, g, k, rfl, h1, h3, h4⟩
theorem reps_len : ∀ {ds : List D} {vs : List V} {fp : List Addr}, Reps G Z H ds vs fp → vs.length = ds.length
  | [], _, _, h => by rw [h.1]; rfl
  | d :: ds, _, _, h => by
    obtain ⟨v, r, f1, f2, e, h1, h2, _⟩ := h
    rw [e, List.length_cons, List.length_cons, reps_len h2]
theorem reps_app : ∀ {xs : List D} {vs : List V} {f : List Addr}, Reps G Z H xs vs f → Reps G Z H ys ws f' → Reps G Z H (xs ++ ys) (vs ++ ws) (f ++ f')
  | [], _, _, h, k => by obtain ⟨rfl, rfl⟩ := h; exact k
  | d :: ds, _, _, h, k => by
    obtain ⟨v, r, f1, f2, rfl, h1, h2, rfl⟩ := h
    exact ⟨v, r ++ ws, f1, f2 ++ f', rfl, h1, reps_app h2 k, by simp⟩
theorem reps_get : ∀ {ds : List D} {vs : List V} {fp : List Addr}, Reps G Z H ds vs fp → ∀ {j : Nat} {d : D}, ds[j]? = some d → ∃ v f, vs[j]? = some v ∧ Rep G Z H d v f ∧ (∀ a ∈ f, a ∈ fp) ∧ (fp.Nodup → f.Nodup)
  | [], _, _, _, _, _, e => by simp at e
  | d :: ds, _, _, h, j, d', e => by
    obtain ⟨v, r, f1, f2, rfl, h1, h2, rfl⟩ := h
    cases j with
    | zero =>
      simp at e
      subst e
      exact ⟨v, f1, rfl, h1, fun a ha => List.mem_append_left _ ha, fun n => (List.nodup_append.mp n).1⟩
    | succ j =>
      obtain ⟨w, g, e2, r2, s, n⟩ := reps_get h2 (j := j) (by simpa using e)
      exact ⟨w, g, by simpa using e2, r2, fun a ha => List.mem_append_right _ (s a ha), fun m => n (List.nodup_append.mp m).2.1⟩
theorem reps_take : ∀ {ds : List D} {vs : List V} (n : Nat), Reps G Z H ds vs [] → Reps G Z H (ds.take n) (vs.take n) []
  | [], _, n, h => by obtain ⟨rfl, _⟩ := h; simp; exact ⟨rfl, rfl⟩
  | d :: ds, _, 0, h => by simp; exact ⟨rfl, rfl⟩
  | d :: ds, _, n + 1, h => by
    obtain ⟨v, r, f1, f2, rfl, h1, h2, e⟩ := h
    obtain ⟨rfl, rfl⟩ := List.append_eq_nil_iff.mp e.symm
    exact ⟨v, r.take n, [], [], rfl, h1, reps_take n h2, rfl⟩
theorem reps_drop : ∀ {ds : List D} {vs : List V} (n : Nat), Reps G Z H ds vs [] → Reps G Z H (ds.drop n) (vs.drop n) []
  | [], _, n, h => by obtain ⟨rfl, _⟩ := h; simp; exact ⟨rfl, rfl⟩
  | d :: ds, _, 0, h => by simpa using h
  | d :: ds, _, n + 1, h => by
    obtain ⟨v, r, f1, f2, rfl, h1, h2, e⟩ := h
    obtain ⟨rfl, rfl⟩ := List.append_eq_nil_iff.mp e.symm
    exact reps_drop n h2
theorem reps_flat : ∀ (k : Nat), Reps G Z H xs vs [] → Reps G Z H (List.replicate k xs).flatten (List.replicate k vs).flatten []
  | 0, h => ⟨rfl, rfl⟩
  | k + 1, h => by
    rw [List.replicate_succ, List.replicate_succ, List.flatten_cons, List.flatten_cons]
    exact reps_app h (reps_flat k h)
theorem stills_app : ∀ {xs : List D}, stills xs = true → stills ys = true → stills (xs ++ ys) = true
  | [], _, h => h
  | d :: ds, h, k => by
    obtain ⟨h1, h2⟩ := andB h
    exact Bool.and_eq_true_iff.mpr ⟨h1, stills_app h2 k⟩
/-- new lists, tuples of what is still -/
theorem new_list {p : Addr} (s : Sub Z H) (r : Reps G Z H ds vs []) (hp : H p = none) : Fr Z H Z (upd H p (.lst vs)) ∧ Rep G Z (upd H p (.lst vs)) (.mls ds) (.ref p) [p] :=
  ⟨Fr.own s hp, p, vs, [], rfl, upd_same, sub_none s hp, r.fr (Fr.own s hp), rfl⟩
theorem new_tup {p : Addr} (s : Sub Z H) (r : Reps G Z H ds vs f) (hp : H p = none) : Fr Z H (upd Z p (.tup vs)) (upd H p (.tup vs)) ∧ Rep G (upd Z p (.tup vs)) (upd H p (.tup vs)) (.tup ds) (.ref p) f :=
  ⟨Fr.new s hp, p, vs, rfl, upd_same, r.fr (Fr.new s hp)⟩
theorem nodup1 {p : Addr} : [p].Nodup := by simp
theorem free1 {p : Addr} (hp : H p = none) : ∀ a ∈ [p], H a = none := fun a ha => by
  rcases List.mem_cons.mp ha with rfl | h
  · exact hp
  · cases h
/-- a list, read -/
theorem list_of (s : Sub Z H) (h : listOf d = some xs) (r : Rep G Z H d v f) : ∃ p ws, v = .ref p ∧ Rd H p (.lst ws) ∧ Reps G Z H xs ws [] := by
  cases d with
  | lst l =>
    cases h
    obtain ⟨p, ws, e, q, r, _⟩ := r
    exact ⟨p, ws, e, rd_up s q, r⟩
  | mls l =>
    unfold listOf at h
    simp only at h
    split at h
    · rename_i st
      cases h
      obtain ⟨p, ws, g, e, q, _, r, _⟩ := r
      exact ⟨p, ws, e, .inl q, r.keep (L2.Same.refl _) st⟩
    · cases h
  | _ => cases h
theorem lst_i (s : Sub Z H) (h : lstI d = some xs) (r : Rep G Z H d v f) : ∃ p ws g, v = .ref p ∧ SqL G.K H p ws ∧ Reps G Z H xs ws g := by
  cases d with
  | lst l =>
    cases h
    obtain ⟨p, ws, e, q, r, _⟩ := r
    exact ⟨p, ws, [], e, .inl (rd_up s q), r⟩
  | mls l =>
    cases h
    obtain ⟨p, ws, g, e, q, _, r, _⟩ := r
    exact ⟨p, ws, g, e, SqL.of q, r⟩
  | _ => cases h
theorem items_of (s : Sub Z H) (h : itemsOf d = some xs) (r : Rep G Z H d v f) : ∃ p ws g, v = .ref p ∧ (SqL G.K H p ws ∨ SqT G.K H p ws) ∧ Reps G Z H xs ws g := by
  cases d with
  | tup l =>
    cases h
    obtain ⟨p, ws, e, q, r⟩ := r
    exact ⟨p, ws, _, e, .inr (SqT.up s q), r⟩
  | lst l =>
    cases h
    obtain ⟨p, ws, e, q, r, _⟩ := r
    exact ⟨p, ws, [], e, .inl (.inl (rd_up s q)), r⟩
  | mls l =>
    cases h
    obtain ⟨p, ws, g, e, q, _, r, _⟩ := r
    exact ⟨p, ws, g, e, .inl (SqL.of q), r⟩
  | _ => cases h
theorem bools_vs : ∀ {ds : List D} {bs : List Bool} {ws : List V} {g : List Addr}, boolsOf ds = some bs → Reps G Z H ds ws g → ws = bs.map V.bl
  | [], bs, ws, g, h, r => by cases h; exact r.1
  | d :: ds, bs, ws, g, h, r => by
    obtain ⟨v, r', f1, f2, rfl, h1, h2, _⟩ := r
    cases d with
    | bl b =>
      cases e : boolsOf ds with
      | none => rw [boolsOf, e] at h; cases h
      | some l =>
        rw [boolsOf, e] at h
        cases h
        rw [h1.1, bools_vs e h2]
        rfl
    | _ => cases h
theorem ints_vs : ∀ {ds : List D} {bs : List Int} {ws : List V} {g : List Addr}, intsOf ds = some bs → Reps G Z H ds ws g → ws = bs.map V.int
  | [], bs, ws, g, h, r => by cases h; exact r.1
  | d :: ds, bs, ws, g, h, r => by
    obtain ⟨v, r', f1, f2, rfl, h1, h2, _⟩ := r
    cases d with
    | int b =>
      cases e : intsOf ds with
      | none => rw [intsOf, e] at h; cases h
      | some l =>
        rw [intsOf, e] at h
        cases h
        rw [h1.1, ints_vs e h2]
        rfl
    | _ => cases h
theorem strs_vs : ∀ {ds : List D} {bs : List Str} {ws : List V} {g : List Addr}, strsOf ds = some bs → Reps G Z H ds ws g → ws = bs.map V.str
  | [], bs, ws, g, h, r => by cases h; exact r.1
  | d :: ds, bs, ws, g, h, r => by
    obtain ⟨v, r', f1, f2, rfl, h1, h2, _⟩ := r
    cases d with
    | str b =>
      cases e : strsOf ds with
      | none => rw [strsOf, e] at h; cases h
      | some l =>
        rw [strsOf, e] at h
        cases h
        rw [h1.1, strs_vs e h2]
        rfl
    | _ => cases h
mutual
theorem dp_of (s : Sub Z H) : ∀ (d : D) (p : PyData) (v : V) (f : List Addr), toPy d = some p → Rep G Z H d v f → Dp G.K H v p
  | .non, _, _, _, e, r => by cases e; rw [r.1]; exact .non
  | .bl b, _, _, _, e, r => by cases e; rw [r.1]; exact .bl b
  | .int i, _, _, _, e, r => by cases e; rw [r.1]; exact .int i
  | .str i, _, _, _, e, r => by cases e; rw [r.1]; exact .str i
  | .tup ds, p, _, _, e, r => by
    cases q : toPys ds with
    | none => rw [toPy, q] at e; cases e
    | some ps =>
      rw [toPy, q] at e
      cases e
      obtain ⟨a, vs, rfl, sq, r⟩ := r
      exact .tup (SqT.up s sq) (dps_of s ds ps vs _ q r)
  | .lst ds, p, _, _, e, r => by
    cases q : toPys ds with
    | none => rw [toPy, q] at e; cases e
    | some ps =>
      rw [toPy, q] at e
      cases e
      obtain ⟨a, vs, rfl, sq, r, _⟩ := r
      exact .lst (.inl (rd_up s sq)) (dps_of s ds ps vs _ q r)
  | .mls ds, p, _, _, e, r => by
    cases q : toPys ds with
    | none => rw [toPy, q] at e; cases e
    | some ps =>
      rw [toPy, q] at e
      cases e
      obtain ⟨a, vs, g, rfl, sq, _, r, _⟩ := r
      exact .lst (SqL.of sq) (dps_of s ds ps vs _ q r)
  | .ins _ _ _, _, _, _, e, _ => by cases e
  | .dct _ _ _, _, _, _, e, _ => by cases e
  | .mns _ _ _, _, _, _, e, _ => by cases e
  | .mdc _ _ _, _, _, _, e, _ => by cases e
theorem dps_of (s : Sub Z H) : ∀ (ds : List D) (ps : List PyData) (vs : List V) (f : List Addr), toPys ds = some ps → Reps G Z H ds vs f → DpAll G.K H vs ps
  | [], _, _, _, e, r => by cases e; rw [r.1]; exact .nil
  | d :: ds, ps, _, _, e, r => by
    obtain ⟨v, r', f1, f2, rfl, h1, h2, _⟩ := r
    rw [toPys] at e
    cases q1 : toPy d with
    | none => rw [q1] at e; cases e
    | some x =>
      cases q2 : toPys ds with
      | none => rw [q1, q2] at e; cases e
      | some xs =>
        rw [q1, q2] at e
        cases e
        exact .cons (dp_of s d x v f1 q1 h1) (dps_of s ds xs r' f2 q2 h2)
end
theorem flat0_v (h : flat0 d = true) (r : Rep G Z H d v f) : flatV v = true := by
  cases d <;> first | (rw [r.1]; rfl) | cases h
theorem flat0_vs : ∀ {ds : List D} {vs : List V} {f : List Addr}, ds.all flat0 = true → Reps G Z H ds vs f → vs.all flatV = true
  | [], _, _, _, r => by rw [r.1]; rfl
  | d :: ds, _, _, h, r => by
    obtain ⟨v, r', f1, f2, rfl, h1, h2, _⟩ := r
    rw [List.all_cons] at h ⊢
    obtain ⟨k1, k2⟩ := andB h
    rw [flat0_v k1 h1, flat0_vs k2 h2]
    rfl
theorem eq0_v (h : flat0 a = true) (k : flat0 b = true) (r : Rep G Z H a x f) (q : Rep G Z H b y f') : eqV x y = eq0 a b := by
  cases a with
  | non => cases b <;> first | (rw [r.1, q.1]; rfl) | cases k
  | bl _ => cases b <;> first | (rw [r.1, q.1]; rfl) | cases k
  | int _ => cases b <;> first | (rw [r.1, q.1]; rfl) | cases k
  | str _ => cases b <;> first | (rw [r.1, q.1]; rfl) | cases k
  | _ => cases h
theorem any0_v (h : flat0 a = true) (r : Rep G Z H a x f) : ∀ {ds : List D} {vs : List V} {g : List Addr}, ds.all flat0 = true → Reps G Z H ds vs g → inV x vs = ds.any fun z => eq0 z a
  | [], _, _, _, q => by rw [q.1]; rfl
  | d :: ds, _, _, k, q => by
    obtain ⟨v, r', f1, f2, rfl, h1, h2, _⟩ := q
    rw [List.all_cons] at k
    obtain ⟨k1, k2⟩ := andB k
    show (eqV v x || inV x r') = (eq0 d a || ds.any fun z => eq0 z a)
    rw [eq0_v k1 h h1 r, any0_v h r k2 h2]

/-! ### lists of any standing, glued -/
theorem rd_lst {pins : List (Addr × Obj)} {σ : L2.St} {s : Shared} {p : Addr} {vs : List V} (I : Inv X pins σ H s) (h : Rd H p (.lst vs)) : ∃ (its : List Value) (n : Nat), Vals vs its ∧ s.heap.get? p = some { cls := .type "list", data := .seq its.toArray n } ∧ vs.length = its.length := by
  obtain ⟨z, its, n, r, e⟩ := h.ok I.hok
  exact ⟨its, n, r, e, r.length⟩
def rCatR : R2 := fun x y H Q => ∃ l b xs zs, x = .ref l ∧ y = .ref b ∧ Rd H l (.lst xs) ∧ Rd H b (.lst zs) ∧ xs.length + zs.length ≤ sizeLine ∧ ∀ p, H p = none → Q (.ref p) (upd H p (.lst (xs ++ zs)))
theorem op_catR : OpR X (binaryOp .Add) rCatR := by
  intro pins s σ H x y v u Q I rx ry h
  obtain ⟨l, b, xs, zs, rfl, rfl, hH, hB, hz, q⟩ := h
  cases rx
  cases ry
  obtain ⟨its, n, r, e, hl⟩ := rd_lst I hH
  obtain ⟨its2, n2, r2, e2, hl2⟩ := rd_lst I hB
  refine PySem.P.add_list e e2 ?_ (by rw [List.size_toArray, List.size_toArray]; omega)
  have ea : its.toArray ++ its2.toArray = (its ++ its2).toArray := by simp
  rw [ea]
  exact ⟨.ref _, _, I.lnew (t' := s.toks) (r.append r2) (by rw [List.length_append]; omega), rfl, q _ I.fresh⟩
end

section
variable {X : Cx}
def rRepR : R2 := fun x y H Q => ∃ l k xs, x = .ref l ∧ y = .int k ∧ Rd H l (.lst xs) ∧ -(2 ^ 63) ≤ k ∧ k < 2 ^ 63 ∧ xs.length * k.toNat ≤ sizeLine ∧
  ∀ p, H p = none → Q (.ref p) (upd H p (.lst (List.replicate k.toNat xs).flatten))
theorem op_repR : OpR X (binaryOp .Mult) rRepR := by
  intro pins s σ H x y v u Q I rx ry h
  obtain ⟨l, k, xs, rfl, rfl, hH, h1, h2, hz, q⟩ := h
  cases rx
  obtain ⟨t, rfl⟩ := ry
  obtain ⟨its, n, r, e, hl⟩ := rd_lst I hH
  have hlen : its.toArray.size * k.toNat ≤ sizeLine := by rw [List.size_toArray, ← hl]; exact hz
  have hcap : ¬ its.toArray.size * k.toNat > (2 ^ 63 - 1) / 8 := by
    have : (sizeLine : Nat) ≤ (2 ^ 63 - 1) / 8 := by decide
    omega
  have hfit : ¬ (!Builtin.List.listFitsIndex k) = true := by
    rw [fitsIndex_both h1 h2]
    exact Bool.false_ne_true
  have hlong : ¬ Builtin.List.listTooLong (its.toArray.size * k.toNat) = true := by
    rw [notLongL hlen]
    exact Bool.false_ne_true
  have hnew : List.foldl (fun x1 x2 => x1 ++ x2) #[] (List.replicate (if its.toArray.isEmpty = true then 0 else k.toNat) its.toArray) = (List.replicate k.toNat its).flatten.toArray := by
    have f0 : ∀ m : Nat, List.foldl (fun x1 x2 => x1 ++ x2) #[] (List.replicate m its.toArray) = (List.replicate m its).flatten.toArray := fun m => by
      have := foldl_rep its m []
      rw [List.nil_append] at this
      exact this
    rw [f0]
    cases its with
    | nil => simp
    | cons a r' => rw [if_neg (by simp)]
  refine wpAny_binaryOp_repeat_ref (T := "list") (U := "int") (by decide) ⟨_, e, rfl⟩ (fun s' => typeIs_int s' k t) noFill_list_mul F.fills_int_mul F.slot_int_rmul repeat_list F.slot_int_index.lookup
    (call_meets F.slot_int_rmul (typeIs_int s k t) F.entry_int_rmul (F.args_int_rmul_2 _ _) (int___rmul___int_list k t l its.toArray n)
      ⟨e, rfl, ⟨_, e, rfl⟩, call_meets F.slot_list_mul ⟨_, e, rfl⟩ F.entry_list_mul (F.args_list_mul_2 _ _) (AutoListH.list___mul___list_int_3 l its.toArray n k t hfit hcap hlong) ⟨e, ?_⟩⟩)
  rw [hnew]
  exact ⟨.ref _, _, I.lnew (t' := s.toks) (r.rep k.toNat) (by rw [PyProof.Rows.lm_len_rep_flat, Nat.mul_comm]; exact hz), rfl, q _ I.fresh⟩
end

/-! ### the operators over data -/
section
variable {G : Gx} {X : Cx} {Z H : Hp} {Q : VK}
theorem fin {d : D} {v : V} (s : Sub Z H) (hd : ∀ Z H, Rep G Z H d v []) (k : ∀ v Z' H' f, Fr Z H Z' H' → Rep G Z' H' d v f → f.Nodup → (∀ a ∈ f, H a = none) → Q v H') : Q v H :=
  k v Z H [] (Fr.refl s) (hd _ _) List.nodup_nil fun _ h => nomatch h
theorem fin_int {i : Int} (Z H : Hp) : Rep G Z H (.int i) (.int i) [] := ⟨rfl, rfl⟩
theorem fin_bl {i : Bool} (Z H : Hp) : Rep G Z H (.bl i) (.bl i) [] := ⟨rfl, rfl⟩
theorem fin_str {i : Str} (Z H : Hp) : Rep G Z H (.str i) (.str i) [] := ⟨rfl, rfl⟩
theorem fin_non (Z H : Hp) : Rep G Z H .non .non [] := ⟨rfl, rfl⟩
theorem fin_list {ds : List D} {vs : List V} (s : Sub Z H) (r : Reps G Z H ds vs []) (k : ∀ v Z' H' f, Fr Z H Z' H' → Rep G Z' H' (.mls ds) v f → f.Nodup → (∀ a ∈ f, H a = none) → Q v H') :
    ∀ p, H p = none → Q (.ref p) (upd H p (.lst vs)) := fun p hp =>
  let ⟨h1, h2⟩ := new_list s r hp
  k (.ref p) Z _ [p] h1 h2 nodup1 (free1 hp)
theorem fin_tup {ds : List D} {vs : List V} (s : Sub Z H) (r : Reps G Z H ds vs []) (k : ∀ v Z' H' f, Fr Z H Z' H' → Rep G Z' H' (.tup ds) v f → f.Nodup → (∀ a ∈ f, H a = none) → Q v H') :
    ∀ p, H p = none → Q (.ref p) (upd H p (.tup vs)) := fun p hp =>
  let ⟨h1, h2⟩ := new_tup s r hp
  k (.ref p) _ _ [] h1 h2 List.nodup_nil fun _ h => nomatch h
theorem int2_inv {g : Int → Int → Option D} {a b d : D} (h : int2 g a b = some d) : ∃ i j, a = .int i ∧ b = .int j ∧ g i j = some d := by
  cases a <;> first | cases h | (cases b <;> first | cases h | exact ⟨_, _, rfl, rfl, h⟩)
theorem str2_inv {g : Str → Str → Option D} {a b d : D} (h : str2 g a b = some d) : ∃ i j, a = .str i ∧ b = .str j ∧ g i j = some d := by
  cases a <;> first | cases h | (cases b <;> first | cases h | exact ⟨_, _, rfl, rfl, h⟩)
theorem or_int {o : Op} {fn : Value → Value → Sem Value} {C : Int → Int → Prop} {gv : Int → Int → V} {g : Int → Int → Option D} (ho : ∀ a b, opD o [a, b] = int2 g a b) (rule : OpR X fn (rI C gv))
    (hg : ∀ i j d, g i j = some d → C i j ∧ ∀ Z H, Rep G Z H d (gv i j) []) : OpR X fn (fun x y H Q => rD G o [x, y] H Q) := by
  intro pins s σ H x y v u Q I rx ry ⟨Z, ds, fp, d, sb, r, e, k⟩
  obtain ⟨a, b, f, g', rfl, r1, r2⟩ := reps2 r
  obtain ⟨i, j, rfl, rfl, eg⟩ := int2_inv ((ho a b).symm.trans e)
  obtain ⟨c, hr⟩ := hg i j d eg
  exact rule pins s σ H x y v u Q I rx ry ⟨i, j, r1.1, r2.1, c, fin sb hr k⟩
theorem or_int0 {o : Op} {fn : Value → Value → Sem Value} {gv : Int → Int → V} {g : Int → Int → Option D} (ho : ∀ a b, opD o [a, b] = int2 g a b) (rule : OpR X fn (rI0 gv))
    (hg : ∀ i j d, g i j = some d → ∀ Z H, Rep G Z H d (gv i j) []) : OpR X fn (fun x y H Q => rD G o [x, y] H Q) := by
  intro pins s σ H x y v u Q I rx ry ⟨Z, ds, fp, d, sb, r, e, k⟩
  obtain ⟨a, b, f, g', rfl, r1, r2⟩ := reps2 r
  obtain ⟨i, j, rfl, rfl, eg⟩ := int2_inv ((ho a b).symm.trans e)
  exact rule pins s σ H x y v u Q I rx ry ⟨i, j, r1.1, r2.1, fin sb (hg i j d eg) k⟩
theorem some_int {i : Int} {d : D} {v : V} (e : (some (.int i) : Option D) = some d) (hv : v = .int i) (Z H : Hp) : Rep G Z H d v [] := by
  cases e; exact ⟨hv, rfl⟩
theorem some_bl {i : Bool} {d : D} {v : V} (e : (some (.bl i) : Option D) = some d) (hv : v = .bl i) (Z H : Hp) : Rep G Z H d v [] := by
  cases e; exact ⟨hv, rfl⟩
theorem if_some {α : Type} {c : Prop} [Decidable c] {a d : α} (h : (if c then some a else none) = some d) : c ∧ a = d := by
  by_cases hc : c
  · rw [if_pos hc] at h; exact ⟨hc, Option.some.inj h⟩
  · rw [if_neg hc] at h; cases h
theorem shlOk_ok {i j : Int} (h : shlOk i j = true) : CShl i j := of_decide_eq_true (p := 0 ≤ j ∧ (Builtin.Int.intBits i : Int) + j ≤ 134217728) h
theorem or_sub : OpR X (binaryOp .Sub) (fun x y H Q => rD G .sub [x, y] H Q) := or_int0 (fun _ _ => rfl) op_sub fun _ _ _ e => some_int e rfl
theorem or_fdiv : OpR X (binaryOp .FloorDiv) (fun x y H Q => rD G .fdiv [x, y] H Q) := or_int (fun _ _ => rfl) op_fdiv fun _ _ _ e => ⟨(if_some e).1, some_int (congrArg some (if_some e).2) rfl⟩
theorem or_mod : OpR X (binaryOp .Mod) (fun x y H Q => rD G .mod [x, y] H Q) := or_int (fun _ _ => rfl) op_mod fun _ _ _ e => ⟨(if_some e).1, some_int (congrArg some (if_some e).2) rfl⟩
theorem or_shl : OpR X (binaryOp .LShift) (fun x y H Q => rD G .shl [x, y] H Q) := or_int (fun _ _ => rfl) op_shlW fun _ _ _ e => ⟨shlOk_ok (if_some e).1, some_int (congrArg some (if_some e).2) rfl⟩
theorem or_shr : OpR X (binaryOp .RShift) (fun x y H Q => rD G .shr [x, y] H Q) := or_int (fun _ _ => rfl) op_shr fun _ _ _ e => ⟨(if_some e).1, some_int (congrArg some (if_some e).2) rfl⟩
theorem or_band : OpR X (binaryOp .BitAnd) (fun x y H Q => rD G .band [x, y] H Q) := or_int0 (fun _ _ => rfl) op_and fun _ _ _ e => some_int e rfl
theorem or_bor : OpR X (binaryOp .BitOr) (fun x y H Q => rD G .bor [x, y] H Q) := or_int0 (fun _ _ => rfl) op_or fun _ _ _ e => some_int e rfl
theorem or_bxor : OpR X (binaryOp .BitXor) (fun x y H Q => rD G .bxor [x, y] H Q) := or_int0 (fun _ _ => rfl) op_xor fun _ _ _ e => some_int e rfl
theorem or_lt : OpR X (compareOp .Lt) (fun x y H Q => rD G .lt [x, y] H Q) := or_int0 (fun _ _ => rfl) op_lt fun _ _ _ e => some_bl e rfl
theorem or_le : OpR X (compareOp .LtE) (fun x y H Q => rD G .le [x, y] H Q) := or_int0 (fun _ _ => rfl) op_le fun _ _ _ e => some_bl e rfl
theorem or_gt : OpR X (compareOp .Gt) (fun x y H Q => rD G .gt [x, y] H Q) := or_int0 (fun _ _ => rfl) op_gt fun _ _ _ e => some_bl e rfl
theorem or_ge : OpR X (compareOp .GtE) (fun x y H Q => rD G .ge [x, y] H Q) := or_int0 (fun _ _ => rfl) op_ge fun _ _ _ e => some_bl e rfl
theorem or_add (hK : X.K = G.K) : OpR X (binaryOp .Add) (fun x y H Q => rD G .add [x, y] H Q) := by
  intro pins s σ H x y v u Q I rx ry ⟨Z, ds, fp, d, sb, r, e, k⟩
  obtain ⟨a, b, f, g', rfl, r1, r2⟩ := reps2 r
  replace e : addD a b = some d := e
  unfold addD at e
  split at e
  · cases e
    exact op_add pins s σ H x y v u Q I rx ry ⟨_, _, r1.1, r2.1, fin sb fin_int k⟩
  · obtain ⟨hz, rfl⟩ := if_some e
    exact op_add_str pins s σ H x y v u Q I rx ry ⟨_, _, r1.1, r2.1, hz, fin sb fin_str k⟩
  · rename_i xs ys
    obtain ⟨⟨⟨s1, s2⟩, hz⟩, rfl⟩ := if_some e
    obtain ⟨p, ps, rfl, q1, w1⟩ := r1
    obtain ⟨p2, ps2, rfl, q2, w2⟩ := r2
    have w1' := w1.keep (L2.Same.refl Z) (H' := H) s1
    have w2' := w2.keep (L2.Same.refl Z) (H' := H) s2
    have hl1 := reps_len w1'
    have hl2 := reps_len w2'
    refine op_catA pins s σ H _ _ v u Q I rx ry ⟨p, p2, ps, ps2, rfl, rfl, hK ▸ SqT.up sb q1, hK ▸ SqT.up sb q2, ?_, fun e0 => ?_, fun _ e0 => ?_, fun _ _ => ?_⟩
    · show ps.length + ps2.length ≤ 2 ^ 24
      omega
    · subst e0
      have : xs = [] := List.eq_nil_of_length_eq_zero hl1.symm
      subst this
      exact k (.ref p2) Z H [] (Fr.refl sb) ⟨p2, ps2, rfl, q2, w2'⟩ List.nodup_nil fun _ h => nomatch h
    · subst e0
      have : ys = [] := List.eq_nil_of_length_eq_zero hl2.symm
      subst this
      rw [List.append_nil] at k
      exact k (.ref p) Z H [] (Fr.refl sb) ⟨p, ps, rfl, q1, w1'⟩ List.nodup_nil fun _ h => nomatch h
    · exact fin_tup sb (reps_app w1' w2') k
  · cases h1 : listOf a with
    | none => rw [h1] at e; cases e
    | some xs =>
      cases h2 : listOf b with
      | none => rw [h1, h2] at e; cases e
      | some ys =>
        rw [h1, h2] at e
        obtain ⟨hz, rfl⟩ := if_some e
        obtain ⟨p, ps, rfl, q1, w1⟩ := list_of sb h1 r1
        obtain ⟨p2, ps2, rfl, q2, w2⟩ := list_of sb h2 r2
        have hl1 := reps_len w1
        have hl2 := reps_len w2
        exact op_catR pins s σ H _ _ v u Q I rx ry ⟨p, p2, ps, ps2, rfl, rfl, q1, q2, (by show ps.length + ps2.length ≤ 2 ^ 24; omega), fin_list sb (reps_app w1 w2) k⟩
theorem or_mul : OpR X (binaryOp .Mult) (fun x y H Q => rD G .mul [x, y] H Q) := by
  intro pins s σ H x y v u Q I rx ry ⟨Z, ds, fp, d, sb, r, e, k⟩
  obtain ⟨a, b, f, g', rfl, r1, r2⟩ := reps2 r
  replace e : mulD a b = some d := e
  unfold mulD at e
  split at e
  · obtain ⟨hz, rfl⟩ := if_some e
    unfold mulOk at hz
    rcases Bool.or_eq_true_iff.mp hz with h | h
    · exact op_mul pins s σ H x y v u Q I rx ry ⟨_, _, r1.1, r2.1, .inl (of_decide_eq_true h), fin sb fin_int k⟩
    · rcases Bool.or_eq_true_iff.mp h with h | h
      · exact op_mul pins s σ H x y v u Q I rx ry ⟨_, _, r1.1, r2.1, .inr (of_decide_eq_true h), fin sb fin_int k⟩
      · exact op_mulX pins s σ H x y v u Q I rx ry ⟨_, _, r1.1, r2.1, (of_decide_eq_true h : (Builtin.Int.intBits _ : Int) + (Builtin.Int.intBits _ : Int) ≤ 134217728), fin sb fin_int k⟩
  · rename_i n hn
    cases h1 : listOf a with
    | none => rw [h1] at e; cases e
    | some xs =>
      rw [h1] at e
      obtain ⟨⟨⟨n1, n2⟩, hz⟩, rfl⟩ := if_some e
      obtain ⟨p, ps, rfl, q1, w1⟩ := list_of sb h1 r1
      have hl1 := reps_len w1
      obtain rfl : y = .int n := r2.1
      exact op_repR pins s σ H _ _ v u Q I rx ry ⟨p, n, ps, rfl, rfl, q1, n1, n2, (by rw [hl1]; exact hz), fin_list sb (reps_flat n.toNat w1) k⟩
  · cases e

theorem un1 {ds : List D} {vs : List V} {fp : List Addr} {a : D} (r : Reps G Z H [a] vs fp) : ∃ v f, vs = [v] ∧ Rep G Z H a v f := by
  obtain ⟨v, r', f1, f2, rfl, h1, h2, _⟩ := r
  exact ⟨v, f1, by rw [h2.1], h1⟩
theorem un2 {vs : List V} {fp : List Addr} {a b : D} (r : Reps G Z H [a, b] vs fp) : ∃ v w f g, vs = [v, w] ∧ Rep G Z H a v f ∧ Rep G Z H b w g := by
  obtain ⟨v, r', f1, f2, rfl, h1, h2, _⟩ := r
  obtain ⟨w, g, rfl, h3⟩ := un1 (ds := []) h2
  exact ⟨v, w, f1, g, rfl, h1, h3⟩
theorem un3 {vs : List V} {fp : List Addr} {a b c : D} (r : Reps G Z H [a, b, c] vs fp) : ∃ v w z f g k, vs = [v, w, z] ∧ Rep G Z H a v f ∧ Rep G Z H b w g ∧ Rep G Z H c z k := by
  obtain ⟨v, r', f1, f2, rfl, h1, h2, _⟩ := r
  obtain ⟨w, z, g, k, rfl, h3, h4⟩ := un2 h2
  exact ⟨v, w, z, f1, g, k, rfl, h1, h3, h4⟩
/-- a call of one argument -/
theorem cr_one {o : Op} {fv : Value} {g : D → Option D} (ho : ∀ ds d, opD o ds = some d → ∃ a, ds = [a] ∧ g a = some d)
    (rule : ∀ (Z H : Hp) (a d : D) (v : V) (f : List Addr) (Q : VK), Sub Z H → Rep G Z H a v f → g a = some d → (∀ v Z' H' f, Fr Z H Z' H' → Rep G Z' H' d v f → f.Nodup → (∀ a ∈ f, H a = none) → Q v H') →
      ∀ (pins : List (Addr × Obj)) (s : Shared) (σ : L2.St) (us : List Value), L2.Inv X pins σ H s → Vals [v] us → wpAny (model X.prog X.w) X.A (call fv us) (EP X pins σ Q) X.xe s) : CallR X fv (fun vs H Q => rD G o vs H Q) := by
  intro pins s σ H xs us Q I r ⟨Z, ds, fp, d, sb, rr, e, k⟩
  obtain ⟨a, rfl, ea⟩ := ho ds d e
  obtain ⟨v, f, rfl, ra⟩ := un1 (ds := []) rr
  exact rule Z H a d v f Q sb ra ea k pins s σ us I r
theorem cr_len (hK : X.K = G.K) : CallR X (.builtin "len") (fun vs H Q => rD G .len vs H Q) := by
  refine cr_one (g := lenD) (fun ds d h => ?_) fun Z H a d v f Q sb ra ea k pins s σ us I r => ?_
  · match ds, h with
    | [a], h => exact ⟨a, rfl, h⟩
  · cases a with
    | str x =>
      obtain ⟨hz, rfl⟩ := if_some (show (if x.length ≤ 16777216 then some (D.int x.length) else none) = some d from ea)
      exact call_len pins s σ H [v] us Q I r ⟨v, x.length, rfl, by rw [ra.1]; exact ⟨hz, rfl⟩, fin sb fin_int k⟩
    | tup l =>
      cases ea
      obtain ⟨p, ws, rfl, q, rr⟩ := ra
      exact call_len pins s σ H _ us Q I r ⟨.ref p, l.length, rfl, .inr ⟨ws, hK ▸ SqT.up sb q, (reps_len rr).symm⟩, fin sb fin_int k⟩
    | lst l =>
      cases ea
      obtain ⟨p, ws, rfl, q, rr, _⟩ := ra
      exact call_len pins s σ H _ us Q I r ⟨.ref p, l.length, rfl, .inl ⟨ws, .inl (rd_up sb q), (reps_len rr).symm⟩, fin sb fin_int k⟩
    | mls l =>
      cases ea
      obtain ⟨p, ws, g, rfl, q, _, rr, _⟩ := ra
      exact call_len pins s σ H _ us Q I r ⟨.ref p, l.length, rfl, .inl ⟨ws, SqL.of q, (reps_len rr).symm⟩, fin sb fin_int k⟩
    | _ => cases ea
theorem cr_abs : CallR X (.builtin "abs") (fun vs H Q => rD G .abs vs H Q) := by
  refine cr_one (g := absD) (fun ds d h => ?_) fun Z H a d v f Q sb ra ea k pins s σ us I r => ?_
  · match ds, h with
    | [a], h => exact ⟨a, rfl, h⟩
  · cases a with
    | int i =>
      cases ea
      exact call_abs pins s σ H [v] us Q I r ⟨i, by rw [ra.1], fin sb fin_int k⟩
    | _ => cases ea
theorem cr_int : CallR X (.type "int") (fun vs H Q => rD G .int vs H Q) := by
  refine cr_one (g := intD) (fun ds d h => ?_) fun Z H a d v f Q sb ra ea k pins s σ us I r => ?_
  · match ds, h with
    | [a], h => exact ⟨a, rfl, h⟩
  · cases a with
    | int i =>
      cases ea
      exact call_int1 pins s σ H [v] us Q I r (.inl ⟨i, by rw [ra.1], fin sb fin_int k⟩)
    | bl i =>
      cases ea
      exact call_int1 pins s σ H [v] us Q I r (.inr ⟨i, by rw [ra.1], fin sb fin_int k⟩)
    | str x =>
      have ea : (if x.length ≤ 640 then (PySem.intText? x).map D.int else none) = some d := ea
      by_cases hx : x.length ≤ 640
      · rw [if_pos hx] at ea
        cases q : PySem.intText? x with
        | none => rw [q] at ea; cases ea
        | some n =>
          rw [q] at ea
          cases ea
          exact call_int_str pins s σ H [v] us Q I r ⟨x, n, by rw [ra.1], q, hx, fin sb fin_int k⟩
      · rw [if_neg hx] at ea; cases ea
    | _ => cases ea
theorem cr_str : CallR X (.type "str") (fun vs H Q => rD G .str vs H Q) := by
  refine cr_one (g := strD) (fun ds d h => ?_) fun Z H a d v f Q sb ra ea k pins s σ us I r => ?_
  · match ds, h with
    | [a], h => exact ⟨a, rfl, h⟩
  · cases a with
    | int i =>
      obtain ⟨hz, rfl⟩ := if_some (show (if fmtOk i = true then some (D.str (toString i)) else none) = some d from ea)
      exact call_str_int pins s σ H [v] us Q I r ⟨i, by rw [ra.1], of_decide_eq_true (p := i.natAbs.log2 < 1920) hz, fin sb fin_str k⟩
    | _ => cases ea
theorem map_some {α β : Type} {o : Option α} {g : α → β} {d : β} (h : o.map g = some d) : ∃ x, o = some x ∧ g x = d := by
  cases o with
  | none => cases h
  | some x => exact ⟨x, rfl, Option.some.inj h⟩
theorem cr_tuple (hK : X.K = G.K) : CallR X (.type "tuple") (fun vs H Q => rD G .tuple vs H Q) := by
  refine cr_one (g := tupleD) (fun ds d h => ?_) fun Z H a d v f Q sb ra ea k pins s σ us I r => ?_
  · match ds, h with
    | [a], h => exact ⟨a, rfl, h⟩
  · have go : ∀ l, listOf a = some l → D.tup l = d → wpAny (model X.prog X.w) X.A (call (.type "tuple") us) (EP X pins σ Q) X.xe s := by
      intro l hl e
      subst e
      obtain ⟨p, ws, rfl, q, rr⟩ := list_of sb hl ra
      exact call_tuple_of pins s σ H _ us Q I r ⟨p, ws, rfl, .inl ⟨.inl q, fin_tup sb rr k⟩⟩
    cases a with
    | tup l =>
      obtain ⟨st, rfl⟩ := if_some (show (if stills l = true then some (D.tup l) else none) = some d from ea)
      obtain ⟨p, ws, rfl, q, rr⟩ := ra
      exact call_tuple_of pins s σ H _ us Q I r ⟨p, ws, rfl, .inr ⟨hK ▸ SqT.up sb q, k (.ref p) Z H [] (Fr.refl sb) ⟨p, ws, rfl, q, rr.keep (L2.Same.refl _) st⟩ List.nodup_nil fun _ h => nomatch h⟩⟩
    | lst l => obtain ⟨x, h1, h2⟩ := map_some (show (listOf (.lst l)).map D.tup = some d from ea); exact go x h1 h2
    | mls l => obtain ⟨x, h1, h2⟩ := map_some (show (listOf (.mls l)).map D.tup = some d from ea); exact go x h1 h2
    | _ => cases ea
theorem cr_list (hK : X.K = G.K) : CallR X (.type "list") (fun vs H Q => rD G .list vs H Q) := by
  refine cr_one (g := listD) (fun ds d h => ?_) fun Z H a d v f Q sb ra ea k pins s σ us I r => ?_
  · match ds, h with
    | [a], h => exact ⟨a, rfl, h⟩
  · have go : ∀ l, listOf a = some l → D.mls l = d → wpAny (model X.prog X.w) X.A (call (.type "list") us) (EP X pins σ Q) X.xe s := by
      intro l hl e
      subst e
      obtain ⟨p, ws, rfl, q, rr⟩ := list_of sb hl ra
      exact call_list_of pins s σ H _ us Q I r ⟨p, ws, rfl, .inl (.inl q), fin_list sb rr k⟩
    cases a with
    | tup l =>
      obtain ⟨st, rfl⟩ := if_some (show (if stills l = true then some (D.mls l) else none) = some d from ea)
      obtain ⟨p, ws, rfl, q, rr⟩ := ra
      exact call_list_of pins s σ H _ us Q I r ⟨p, ws, rfl, .inr (hK ▸ SqT.up sb q), fin_list sb (rr.keep (L2.Same.refl _) st) k⟩
    | lst l => obtain ⟨x, h1, h2⟩ := map_some (show (listOf (.lst l)).map D.mls = some d from ea); exact go x h1 h2
    | mls l => obtain ⟨x, h1, h2⟩ := map_some (show (listOf (.mls l)).map D.mls = some d from ea); exact go x h1 h2
    | _ => cases ea
theorem bind_some {α β : Type} {o : Option α} {g : α → Option β} {d : β} (h : o.bind g = some d) : ∃ x, o = some x ∧ g x = some d := by
  cases o with
  | none => cases h
  | some x => exact ⟨x, rfl, h⟩
theorem cr_allD (hK : X.K = G.K) (hc : X.calm = true) : CallR X (.builtin "all") (fun vs H Q => rD G .all vs H Q) := by
  refine cr_one (g := fun a => ((lstI a).bind boolsOf).map fun bs => .bl (bs.all id)) (fun ds d h => ?_) fun Z H a d v f Q sb ra ea k pins s σ us I r => ?_
  · match ds, h with
    | [a], h => exact ⟨a, rfl, h⟩
  · obtain ⟨bs, h1, rfl⟩ := map_some ea
    obtain ⟨l, h2, h3⟩ := bind_some h1
    obtain ⟨p, ws, g, rfl, q, rr⟩ := lst_i sb h2 ra
    have e := bools_vs h3 rr
    subst e
    exact cr_all hc pins s σ H _ us Q I r ⟨p, bs, rfl, hK ▸ q, fin sb fin_bl k⟩
theorem cr_anyD (hK : X.K = G.K) (hc : X.calm = true) : CallR X (.builtin "any") (fun vs H Q => rD G .any vs H Q) := by
  refine cr_one (g := fun a => ((lstI a).bind boolsOf).map fun bs => .bl (bs.any id)) (fun ds d h => ?_) fun Z H a d v f Q sb ra ea k pins s σ us I r => ?_
  · match ds, h with
    | [a], h => exact ⟨a, rfl, h⟩
  · obtain ⟨bs, h1, rfl⟩ := map_some ea
    obtain ⟨l, h2, h3⟩ := bind_some h1
    obtain ⟨p, ws, g, rfl, q, rr⟩ := lst_i sb h2 ra
    have e := bools_vs h3 rr
    subst e
    exact cr_any hc pins s σ H _ us Q I r ⟨p, bs, rfl, hK ▸ q, fin sb fin_bl k⟩
theorem cr_sumD (hK : X.K = G.K) (hc : X.calm = true) : CallR X (.builtin "sum") (fun vs H Q => rD G .sum vs H Q) := by
  refine cr_one (g := fun a => ((lstI a).bind intsOf).map fun bs => .int bs.sum) (fun ds d h => ?_) fun Z H a d v f Q sb ra ea k pins s σ us I r => ?_
  · match ds, h with
    | [a], h => exact ⟨a, rfl, h⟩
  · obtain ⟨bs, h1, rfl⟩ := map_some ea
    obtain ⟨l, h2, h3⟩ := bind_some h1
    obtain ⟨p, ws, g, rfl, q, rr⟩ := lst_i sb h2 ra
    have e := ints_vs h3 rr
    subst e
    exact cr_sum hc pins s σ H _ us Q I r ⟨p, bs, rfl, hK ▸ q, fin sb fin_int k⟩
theorem cr_min2 (hc : X.calm = true) : CallR X (.builtin "min") (fun vs H Q => ∃ x y, vs = [x, y] ∧ rD G .min2 [x, y] H Q) := by
  intro pins s σ H xs us Q I r ⟨x, y, hxy, Z, ds, fp, d, sb, rr, e, k⟩
  subst hxy
  obtain ⟨a, b, f, g, rfl, r1, r2⟩ := reps2 rr
  obtain ⟨i, j, rfl, rfl, eg⟩ := int2_inv (show int2 (fun i j => some (.int (if j < i then j else i))) a b = some d from e)
  cases eg
  exact call_min2 hc pins s σ H _ us Q I r ⟨i, j, by rw [r1.1, r2.1], fin sb fin_int k⟩
theorem cr_max2 (hc : X.calm = true) : CallR X (.builtin "max") (fun vs H Q => ∃ x y, vs = [x, y] ∧ rD G .max2 [x, y] H Q) := by
  intro pins s σ H xs us Q I r ⟨x, y, hxy, Z, ds, fp, d, sb, rr, e, k⟩
  subst hxy
  obtain ⟨a, b, f, g, rfl, r1, r2⟩ := reps2 rr
  obtain ⟨i, j, rfl, rfl, eg⟩ := int2_inv (show int2 (fun i j => some (.int (if j > i then j else i))) a b = some d from e)
  cases eg
  exact call_max2 hc pins s σ H _ us Q I r ⟨i, j, by rw [r1.1, r2.1], fin sb fin_int k⟩
theorem ur_neg : UnR X (unaryOp .USub) (fun x H Q => rD G .neg [x] H Q) := by
  intro pins s σ H x v Q I rx ⟨Z, ds, fp, d, sb, rr, e, k⟩
  obtain ⟨a, f, rfl, r1⟩ := reps1 rr
  cases a with
  | int i =>
    cases (show some (D.int (-i)) = some d from e)
    exact un_neg pins s σ H x v Q I rx ⟨i, r1.1, fin sb fin_int k⟩
  | _ => cases (show none = some d from e)
theorem eqD_inv {a b : D} {c : Bool} (h : eqD a b = some c) : ∃ x y, toPy a = some x ∧ toPy b = some y ∧ SeqAt.shaped x = true ∧ SeqAt.shaped y = true ∧ PyData.eqv x y = c := by
  unfold eqD at h
  split at h
  · rename_i x y h1 h2
    obtain ⟨⟨h3, h4⟩, h5⟩ := if_some h
    exact ⟨x, y, h1, h2, h3, h4, h5⟩
  · cases h
theorem or_eq (hK : X.K = G.K) (hu : X.A.units + 64 < cLine) : OpR X (compareOp .Eq) (fun x y H Q => rD G .eq [x, y] H Q) := by
  intro pins s σ H x y v u Q I rx ry ⟨Z, ds, fp, d, sb, r, e, k⟩
  obtain ⟨a, b, f, g', rfl, r1, r2⟩ := reps2 r
  obtain ⟨c, ec, rfl⟩ := map_some (show (eqD a b).map D.bl = some d from e)
  obtain ⟨p, q, h1, h2, h3, h4, rfl⟩ := eqD_inv ec
  exact op_eqD hu pins s σ H x y v u Q I rx ry ⟨p, q, hK ▸ dp_of sb a p x f h1 r1, hK ▸ dp_of sb b q y g' h2 r2, h3, h4, fin sb fin_bl k⟩
theorem or_ne (hK : X.K = G.K) (hu : X.A.units + 64 < cLine) : OpR X (compareOp .NotEq) (fun x y H Q => rD G .ne [x, y] H Q) := by
  intro pins s σ H x y v u Q I rx ry ⟨Z, ds, fp, d, sb, r, e, k⟩
  obtain ⟨a, b, f, g', rfl, r1, r2⟩ := reps2 r
  obtain ⟨c, ec, rfl⟩ := map_some (show (eqD a b).map (fun c => D.bl (!c)) = some d from e)
  obtain ⟨p, q, h1, h2, h3, h4, rfl⟩ := eqD_inv ec
  exact op_neD hu pins s σ H x y v u Q I rx ry ⟨p, q, hK ▸ dp_of sb a p x f h1 r1, hK ▸ dp_of sb b q y g' h2 r2, h3, h4, fin sb fin_bl k⟩
theorem isN_v {a : D} {v : V} {f : List Addr} (r : Rep G Z H a v f) : decide (v = .non) = isNB a := by
  cases a with
  | non => rw [r.1]; rfl
  | bl _ => rw [r.1]; rfl
  | int _ => rw [r.1]; rfl
  | str _ => rw [r.1]; rfl
  | tup _ => obtain ⟨p, ws, rfl, _⟩ := r; rfl
  | lst _ => obtain ⟨p, ws, rfl, _⟩ := r; rfl
  | mls _ => obtain ⟨p, ws, g, rfl, _⟩ := r; rfl
  | ins _ _ _ => obtain ⟨p, ws, g, rfl, _⟩ := r; rfl
  | mns _ _ _ => obtain ⟨p, ws, g, f, rfl, _⟩ := r; rfl
  | dct _ _ _ => obtain ⟨p, ws, g, rfl, _⟩ := r; rfl
  | mdc _ _ _ => obtain ⟨p, ws, g, rfl, _⟩ := r; rfl
/-- is None -/
def rNone (G : Gx) (o : Op) : R2 := fun x y H Q => y = .non ∧ rD G o [x] H Q
theorem or_isN : OpR X (compareOp .Is) (rNone G .isN) := by
  intro pins s σ H x y v u Q I rx ry ⟨hy, Z, ds, fp, d, sb, r, e, k⟩
  obtain ⟨a, f, rfl, r1⟩ := reps1 r
  cases (show some (D.bl (isNB a)) = some d from e)
  refine op_isN pins s σ H x y v u Q I rx ry ⟨hy, ?_⟩
  rw [isN_v r1]
  exact fin sb fin_bl k
theorem or_isnN : OpR X (compareOp .IsNot) (rNone G .isnN) := by
  intro pins s σ H x y v u Q I rx ry ⟨hy, Z, ds, fp, d, sb, r, e, k⟩
  obtain ⟨a, f, rfl, r1⟩ := reps1 r
  cases (show some (D.bl (!isNB a)) = some d from e)
  refine op_notN pins s σ H x y v u Q I rx ry ⟨hy, ?_⟩
  rw [isN_v r1]
  exact fin sb fin_bl k
theorem sign_of {c : Str} (h : c.length = 1) : c = ⟨#[c.cps.getD 0 0]⟩ := by
  obtain ⟨a⟩ := c
  have h1 : a.size = 1 := h
  obtain ⟨l⟩ := a
  match l, h1 with
  | [x], _ => rfl
theorem keyOk_k {d : D} {v : V} {f : List Addr} (h : keyOk false d = true) (r : Rep G Z H d v f) : ∃ k, keyD d = some k ∧ v = kV k := by
  cases d with
  | int i => exact ⟨.inl i, rfl, r.1⟩
  | str i => exact ⟨.inr i, rfl, r.1⟩
  | _ => cases h
theorem keys_k : ∀ {ds : List D} {vs : List V} {f : List Addr}, (ds.all fun d => match d with | .int _ => true | .str _ => true | _ => false) = true → Reps G Z H ds vs f → ∃ k, keysD ds = some k ∧ vs = k.map kV
  | [], _, _, _, r => ⟨[], rfl, r.1⟩
  | d :: ds, _, _, h, r => by
    rw [List.all_cons] at h
    obtain ⟨h1, h2⟩ := andB h
    obtain ⟨v, r', f1, f2, rfl, q1, q2, _⟩ := r
    obtain ⟨k, e, rfl⟩ := keys_k h2 q2
    cases d with
    | int i => exact ⟨.inl i :: k, by rw [keysD, e]; rfl, by rw [q1.1]; rfl⟩
    | str i => exact ⟨.inr i :: k, by rw [keysD, e]; rfl, by rw [q1.1]; rfl⟩
    | _ => cases h1
theorem keyOk_t {d : D} {v : V} {f : List Addr} (h : keyOk true d = true) (r : Rep G Z H d v f) : ∃ k b, tkeyD d = some k ∧ v = .ref b ∧ Z b = some (.tup (k.map kV)) := by
  cases d with
  | tup ds =>
    obtain ⟨a, vs, rfl, q, rr⟩ := r
    obtain ⟨k, e, rfl⟩ := keys_k h rr
    exact ⟨k, a, e, rfl, q⟩
  | _ => cases h
theorem key_py : ∀ {d : D} {k : Key}, keyD d = some k → ∃ p, toPy d = some p ∧ (match k with | .inl i => p = .int i | .inr x => p = .str x)
  | .int i, _, h => by cases h; exact ⟨_, rfl, rfl⟩
  | .str i, _, h => by cases h; exact ⟨_, rfl, rfl⟩
  | .non, _, h => by cases h
  | .bl _, _, h => by cases h
  | .tup _, _, h => by cases h
  | .lst _, _, h => by cases h
  | .mls _, _, h => by cases h
  | .ins _ _ _, _, h => by cases h
  | .mns _ _ _, _, h => by cases h
  | .dct _ _ _, _, h => by cases h
  | .mdc _ _ _, _, h => by cases h
theorem keyEq_k {a b : D} {j k : Key} (h : keyD a = some j) (h' : keyD b = some k) : keyEq a b = decide (j = k) := by
  obtain ⟨p, h1, h2⟩ := key_py h
  obtain ⟨q, h3, h4⟩ := key_py h'
  unfold keyEq
  rw [h1, h3]
  cases j with
  | inl i =>
    cases k with
    | inl m =>
      rw [h2, h4]
      show (i == m) = _
      by_cases e : i = m
      · subst e; simp
      · rw [beq_eq_false_iff_ne.mpr e, decide_eq_false (fun q => e (Sum.inl.inj q))]
    | inr m => rw [h2, h4]; rfl
  | inr i =>
    cases k with
    | inl m => rw [h2, h4]; rfl
    | inr m =>
      rw [h2, h4]
      show (i == m) = _
      by_cases e : i = m
      · subst e; simp
      · rw [beq_eq_false_iff_ne.mpr e, decide_eq_false (fun q => e (Sum.inr.inj q))]
theorem keys_py : ∀ {ds : List D} {ks : List Key}, keysD ds = some ks → ∃ ps, toPys ds = some ps ∧ ps.length = ks.length
  | [], ks, h => by cases h; exact ⟨[], rfl, rfl⟩
  | d :: ds, ks, h => by
    rw [keysD] at h
    cases e1 : keyD d with
    | none => rw [e1] at h; cases h
    | some k =>
      cases e2 : keysD ds with
      | none => rw [e1, e2] at h; cases h
      | some r =>
        rw [e1, e2] at h
        cases h
        obtain ⟨p, h1, _⟩ := key_py e1
        obtain ⟨ps, h2, h3⟩ := keys_py e2
        exact ⟨p :: ps, by rw [toPys, h1, h2], by rw [List.length_cons, List.length_cons, h3]⟩
theorem keysEq_k : ∀ {as bs : List D} {js ks : List Key} {ps qs : List PyData}, keysD as = some js → keysD bs = some ks → toPys as = some ps → toPys bs = some qs → PyData.eqvAll ps qs = decide (js = ks)
  | [], [], js, ks, ps, qs, h, h', e, e' => by cases h; cases h'; cases e; cases e'; rfl
  | [], b :: bs, js, ks, ps, qs, h, h', e, e' => by
    cases h
    cases e
    rw [keysD] at h'
    rw [toPys] at e'
    cases e1 : keyD b with
    | none => rw [e1] at h'; cases h'
    | some k =>
      cases e2 : keysD bs with
      | none => rw [e1, e2] at h'; cases h'
      | some r =>
        rw [e1, e2] at h'
        cases h'
        obtain ⟨p, h1, _⟩ := key_py e1
        obtain ⟨ps, h2, _⟩ := keys_py e2
        rw [h1, h2] at e'
        cases e'
        rfl
  | a :: as, [], js, ks, ps, qs, h, h', e, e' => by
    cases h'
    cases e'
    rw [keysD] at h
    rw [toPys] at e
    cases e1 : keyD a with
    | none => rw [e1] at h; cases h
    | some k =>
      cases e2 : keysD as with
      | none => rw [e1, e2] at h; cases h
      | some r =>
        rw [e1, e2] at h
        cases h
        obtain ⟨p, h1, _⟩ := key_py e1
        obtain ⟨ps, h2, _⟩ := keys_py e2
        rw [h1, h2] at e
        cases e
        rfl
  | a :: as, b :: bs, js, ks, ps, qs, h, h', e, e' => by
    rw [keysD] at h h'
    rw [toPys] at e e'
    cases e1 : keyD a with
    | none => rw [e1] at h; cases h
    | some k =>
      cases e2 : keysD as with
      | none => rw [e1, e2] at h; cases h
      | some r =>
        cases e3 : keyD b with
        | none => rw [e3] at h'; cases h'
        | some k' =>
          cases e4 : keysD bs with
          | none => rw [e3, e4] at h'; cases h'
          | some r' =>
            rw [e1, e2] at h
            rw [e3, e4] at h'
            cases h
            cases h'
            obtain ⟨p, h1, _⟩ := key_py e1
            obtain ⟨ps', h2, _⟩ := keys_py e2
            obtain ⟨p', h3, _⟩ := key_py e3
            obtain ⟨ps'', h4, _⟩ := keys_py e4
            have hk := keyEq_k e1 e3
            unfold keyEq at hk
            rw [h1, h3] at hk
            rw [h1, h2] at e
            rw [h3, h4] at e'
            cases e
            cases e'
            show (PyData.eqv p p' && PyData.eqvAll ps' ps'') = _
            rw [show PyData.eqv p p' = decide (k = k') from hk, keysEq_k e2 e4 h2 h4]
            by_cases x : k = k'
            · subst x
              by_cases y : r = r'
              · subst y; simp
              · simp [y]
            · simp [x]
theorem tkeyEq_k {a b : D} {j k : List Key} (h : tkeyD a = some j) (h' : tkeyD b = some k) : keyEq a b = decide (j = k) := by
  cases a with
  | tup as =>
    cases b with
    | tup bs =>
      obtain ⟨ps, h1, _⟩ := keys_py (show keysD as = some j from h)
      obtain ⟨qs, h2, _⟩ := keys_py (show keysD bs = some k from h')
      unfold keyEq
      rw [show toPy (.tup as) = some (.tuple ps) by rw [toPy, h1]; rfl, show toPy (.tup bs) = some (.tuple qs) by rw [toPy, h2]; rfl]
      exact keysEq_k h h' h1 h2
    | _ => cases h'
  | _ => cases h
/-- what a dict says of a key -/
theorem look_k : ∀ {ks : List D} {kk : List Key} {ds : List D} {ws : List V} {g : List Addr} {k : D} {j : Key}, keysD ks = some kk → kk.length = ws.length → Reps G Z H ds ws g → keyD k = some j →
    match lookD k ks ds with
    | some d => ∃ v f, valV (kk.zip ws) j = some v ∧ Rep G Z H d v f ∧ ∀ a ∈ f, a ∈ g
    | none => valV (kk.zip ws) j = none
  | [], kk, ds, ws, g, k, j, h, hl, r, hk => by
    cases h
    have e : lookD k [] ds = none := rfl
    rw [e]
    rfl
  | a :: ks, kk, ds, ws, g, k, j, h, hl, r, hk => by
    rw [keysD] at h
    cases e1 : keyD a with
    | none => rw [e1] at h; cases h
    | some i =>
      cases e2 : keysD ks with
      | none => rw [e1, e2] at h; cases h
      | some kk' =>
        rw [e1, e2] at h
        cases h
        cases ds with
        | nil => rw [r.1] at hl; cases hl
        | cons d ds =>
          obtain ⟨v, ws', f1, f2, rfl, r1, r2, rfl⟩ := r
          rw [List.zip_cons_cons]
          by_cases hq : i = j
          · have e : lookD k (a :: ks) (d :: ds) = some d := by
              show (if keyEq a k = true then some d else lookD k ks ds) = some d
              rw [keyEq_k e1 hk, if_pos (decide_eq_true hq)]
            rw [e]
            exact ⟨v, f1, valV_pos hq, r1, fun a ha => List.mem_append_left _ ha⟩
          · have e : lookD k (a :: ks) (d :: ds) = lookD k ks ds := by
              show (if keyEq a k = true then some d else lookD k ks ds) = lookD k ks ds
              rw [keyEq_k e1 hk, if_neg (by simpa using hq)]
            rw [e]
            have ih := look_k (k := k) e2 (Nat.succ.inj hl) r2 hk
            rw [valV_neg hq]
            cases q : lookD k ks ds with
            | none => rw [q] at ih; exact ih
            | some d' =>
              rw [q] at ih
              obtain ⟨v', f', h1, h2, h3⟩ := ih
              exact ⟨v', f', h1, h2, fun a ha => List.mem_append_right _ (h3 a ha)⟩
theorem look_t : ∀ {ks : List D} {kk : List (List Key)} {ds : List D} {ws : List V} {g : List Addr} {k : D} {j : List Key}, tkeysD ks = some kk → kk.length = ws.length → Reps G Z H ds ws g → tkeyD k = some j →
    match lookD k ks ds with
    | some d => ∃ v f, valV (kk.zip ws) j = some v ∧ Rep G Z H d v f ∧ ∀ a ∈ f, a ∈ g
    | none => valV (kk.zip ws) j = none
  | [], kk, ds, ws, g, k, j, h, hl, r, hk => by
    cases h
    have e : lookD k [] ds = none := rfl
    rw [e]
    rfl
  | a :: ks, kk, ds, ws, g, k, j, h, hl, r, hk => by
    rw [tkeysD] at h
    cases e1 : tkeyD a with
    | none => rw [e1] at h; cases h
    | some i =>
      cases e2 : tkeysD ks with
      | none => rw [e1, e2] at h; cases h
      | some kk' =>
        rw [e1, e2] at h
        cases h
        cases ds with
        | nil => rw [r.1] at hl; cases hl
        | cons d ds =>
          obtain ⟨v, ws', f1, f2, rfl, r1, r2, rfl⟩ := r
          rw [List.zip_cons_cons]
          by_cases hq : i = j
          · have e : lookD k (a :: ks) (d :: ds) = some d := by
              show (if keyEq a k = true then some d else lookD k ks ds) = some d
              rw [tkeyEq_k e1 hk, if_pos (decide_eq_true hq)]
            rw [e]
            exact ⟨v, f1, valV_pos hq, r1, fun a ha => List.mem_append_left _ ha⟩
          · have e : lookD k (a :: ks) (d :: ds) = lookD k ks ds := by
              show (if keyEq a k = true then some d else lookD k ks ds) = lookD k ks ds
              rw [tkeyEq_k e1 hk, if_neg (by simpa using hq)]
            rw [e]
            have ih := look_t (k := k) e2 (Nat.succ.inj hl) r2 hk
            rw [valV_neg hq]
            cases q : lookD k ks ds with
            | none => rw [q] at ih; exact ih
            | some d' =>
              rw [q] at ih
              obtain ⟨v', f', h1, h2, h3⟩ := ih
              exact ⟨v', f', h1, h2, fun a ha => List.mem_append_right _ (h3 a ha)⟩
/-- a dict, read at a key -/
theorem dget_of {t : Bool} {ks ds : List D} {ws : List V} {o : HO} {a : Addr} {k : D} {y : V} {g fk : List Addr} (sb : Sub Z H) (ha : Z a = some o ∨ H a = some o) (hd : dctObj t ks ws o) (r : Reps G Z H ds ws g) (hk : keyOk t k = true) (rk : Rep G Z H k y fk) :
    match lookD k ks ds with
    | some d => ∃ v f, DGet H a y (some v) ∧ Rep G Z H d v f ∧ ∀ b ∈ f, b ∈ g
    | none => DGet H a y none := by
  cases t with
  | false =>
    obtain ⟨kk, h1, h2, rfl⟩ := hd
    obtain ⟨j, h3, rfl⟩ := keyOk_k hk rk
    have hr : Rd H a (.dK (kk.zip ws)) := by
      rcases ha with ha | ha
      · rcases sb _ _ ha with q | ⟨_, od, q⟩
        · exact .inl q
        · exact .inr ⟨od, q⟩
      · exact .inl ha
    have l := look_k (k := k) h1 h2 r h3
    cases q : lookD k ks ds with
    | none => rw [q] at l; exact .inl ⟨_, j, hr, rfl, l.symm⟩
    | some d =>
      rw [q] at l
      obtain ⟨v, f, e, rd, hs⟩ := l
      exact ⟨v, f, .inl ⟨_, j, hr, rfl, e.symm⟩, rd, hs⟩
  | true =>
    obtain ⟨kk, h1, h2, rfl⟩ := hd
    obtain ⟨j, b, h3, rfl, hb⟩ := keyOk_t hk rk
    have hb' := tup_up sb hb
    have hr : Rd H a (.dT (kk.zip ws)) := by
      rcases ha with ha | ha
      · rcases sb _ _ ha with q | ⟨_, od, q⟩
        · exact .inl q
        · exact .inr ⟨od, q⟩
      · exact .inl ha
    have l := look_t (k := k) h1 h2 r h3
    cases q : lookD k ks ds with
    | none => rw [q] at l; exact .inr ⟨_, j, b, hr, rfl, hb', l.symm⟩
    | some d =>
      rw [q] at l
      obtain ⟨v, f, e, rd, hs⟩ := l
      exact ⟨v, f, .inr ⟨_, j, b, hr, rfl, hb', e.symm⟩, rd, hs⟩
theorem inD_rule (hK : X.K = G.K) (hu : X.A.units + 65 < cLine) {pins : List (Addr × Obj)} {s : Shared} {σ : L2.St} {H Z : Hp} {a b : D} {x y : V} {v u : Value} {c : Bool} {f g : List Addr} {Q : VK} (neg : Bool) (I : L2.Inv X pins σ H s) (rx : RelV x v) (ry : RelV y u)
    (sb : Sub Z H) (r1 : Rep G Z H a x f) (r2 : Rep G Z H b y g) (e : inD a b = some c) (q : Q (.bl (if neg then !c else c)) H) : wpAny (model X.prog X.w) X.A (compareOp (if neg then .NotIn else .In) v u) (EP X pins σ Q) X.xe s := by
  have hu1 : X.A.units + 1 < cLine := by omega
  have dct : ∀ (t : Bool) (ks ds : List D) (p : Addr) (ws : List V) (o : HO) (g' : List Addr), y = .ref p → (Z p = some o ∨ H p = some o) → dctObj t ks ws o → Reps G Z H ds ws g' → dctIn t a ks ds = some c →
      wpAny (model X.prog X.w) X.A (compareOp (if neg then .NotIn else .In) v u) (EP X pins σ Q) X.xe s := by
    intro t ks ds p ws o g' hy ho hd rr hc
    subst hy
    cases ry
    obtain ⟨hk, rfl⟩ := if_some (show (if keyOk t a = true then some (lookD a ks ds).isSome else none) = some c from hc)
    have l := dget_of sb ho hd rr hk r1
    have go : ∀ oo, DGet H p x oo → oo.isSome = (lookD a ks ds).isSome → wpAny (model X.prog X.w) X.A (compareOp (if neg then .NotIn else .In) v (.ref p)) (EP X pins σ Q) X.xe s := by
      intro oo hg ho2
      cases neg with
      | true => exact d_notIn hu1 I hg rx fun s' I' => ⟨.bl _, H, I', by rw [ho2]; rfl, q⟩
      | false => exact d_in hu1 I hg rx fun s' I' => ⟨.bl _, H, I', by rw [ho2]; rfl, q⟩
    cases hq : lookD a ks ds with
    | none => rw [hq] at l go; exact go none l rfl
    | some d => rw [hq] at l go; obtain ⟨v', f', h1, _⟩ := l; exact go (some v') h1 rfl
  have sq : ∀ (ds : List D) (p : Addr) (ws : List V) (g' : List Addr), y = .ref p → (SqL X.K H p ws ∨ SqT X.K H p ws) → Reps G Z H ds ws g' → flat0 a = true → ds.all flat0 = true → (ds.any fun z => eq0 z a) = c →
      wpAny (model X.prog X.w) X.A (compareOp (if neg then .NotIn else .In) v u) (EP X pins σ Q) X.xe s := by
    intro ds p ws g' hy hs rr h1 h2 h3
    have e1 := any0_v h1 r1 h2 rr
    rw [h3] at e1
    cases neg with
    | true => exact op_notIn_seq pins s σ H x y v u Q I rx ry ⟨p, ws, hy, hs, flat0_v h1 r1, flat0_vs h2 rr, by rw [e1]; exact q⟩
    | false => exact op_in_seq pins s σ H x y v u Q I rx ry ⟨p, ws, hy, hs, flat0_v h1 r1, flat0_vs h2 rr, by rw [e1]; exact q⟩
  have ls : ∀ (ds : List D), itemsOf b = some ds → toPy b = (toPys ds).map .list → (∃ p ws g', y = .ref p ∧ SqL G.K H p ws ∧ Reps G Z H ds ws g') →
      (if (flat0 a && ((itemsOf b).getD []).all flat0) = true then (itemsOf b).map fun ds => ds.any fun y => eq0 y a else match toPy a, (itemsOf b).bind toPys with
    | some x, some ys => if shaped x = true ∧ shaped (.list ys) = true then some (ys.any fun y => PyData.eqv y x) else none
    | _, _ => none) = some c → wpAny (model X.prog X.w) X.A (compareOp (if neg then .NotIn else .In) v u) (EP X pins σ Q) X.xe s := by
    intro ds hi hp ⟨p, ws, g', hy, hs, rr⟩ h
    rw [hi] at h
    by_cases hf : (flat0 a && ((some ds).getD []).all flat0) = true
    · rw [if_pos hf] at h
      obtain ⟨h1, h2⟩ := andB hf
      exact sq ds p ws g' hy (.inl (hK ▸ hs)) rr h1 h2 (Option.some.inj h)
    · rw [if_neg hf] at h
      cases q1 : toPy a with
      | none => rw [q1] at h; cases h
      | some pa =>
        cases q2 : toPys ds with
        | none => rw [q1, show (some ds).bind toPys = none from q2] at h; cases h
        | some ps =>
          rw [q1, show (some ds).bind toPys = some ps from q2] at h
          obtain ⟨⟨s1, s2⟩, rfl⟩ := if_some h
          have d1 := dp_of sb a pa x f q1 r1
          have d2 := dp_of sb b (.list ps) y g (by rw [hp, q2]; rfl) r2
          cases neg with
          | true => exact op_notInD hu pins s σ H x y v u Q I rx ry ⟨pa, ps, hK ▸ d1, hK ▸ d2, s1, s2, q⟩
          | false => exact op_inD hu pins s σ H x y v u Q I rx ry ⟨pa, ps, hK ▸ d1, hK ▸ d2, s1, s2, q⟩
  cases b with
  | str z =>
    cases a with
    | str w =>
      obtain ⟨hl, rfl⟩ := if_some (show (if w.length = 1 then some (decide (w.cps.getD 0 0 ∈ z.cps.toList)) else none) = some c from e)
      have hx : x = .str ⟨#[w.cps.getD 0 0]⟩ := by rw [r1.1]; exact congrArg V.str (sign_of hl)
      cases neg with
      | true => exact op_notIn_sign pins s σ H x y v u Q I rx ry ⟨_, z, hx, r2.1, q⟩
      | false => exact op_in_sign pins s σ H x y v u Q I rx ry ⟨_, z, hx, r2.1, q⟩
    | _ => cases e
  | dct t ks ds =>
    obtain ⟨p, ws, o, hy, ho, hd, rr, _⟩ := r2
    exact dct t ks ds p ws o _ hy (.inl ho) hd rr (by cases a <;> exact e)
  | mdc t ks ds =>
    obtain ⟨p, ws, o, hy, ho, _, hd, rr, _⟩ := r2
    exact dct t ks ds p ws o _ hy (.inr ho) hd rr (by cases a <;> exact e)
  | tup ds =>
    obtain ⟨p, ws, hy, hs, rr⟩ := r2
    obtain ⟨⟨h1, h2⟩, h3⟩ := if_some (show (if flat0 a = true ∧ ds.all flat0 = true then some (ds.any fun y => eq0 y a) else none) = some c by cases a <;> exact e)
    exact sq ds p ws _ hy (.inr (SqT.up sb hs)) rr h1 h2 h3
  | lst ds =>
    obtain ⟨p, ws, hy, hs, rr, _⟩ := r2
    exact ls ds rfl rfl ⟨p, ws, _, hy, .inl (rd_up sb hs), rr⟩ (by cases a <;> exact e)
  | mls ds =>
    obtain ⟨p, ws, g', hy, hs, _, rr, _⟩ := r2
    exact ls ds rfl rfl ⟨p, ws, g', hy, SqL.of hs, rr⟩ (by cases a <;> exact e)
  | non => exact nomatch (show none = some c by cases a <;> first | exact e | (unfold inD at e; simp [itemsOf] at e))
  | bl _ => exact nomatch (show none = some c by cases a <;> first | exact e | (unfold inD at e; simp [itemsOf] at e))
  | int _ => exact nomatch (show none = some c by cases a <;> first | exact e | (unfold inD at e; simp [itemsOf] at e))
  | ins _ _ _ => exact nomatch (show none = some c by cases a <;> first | exact e | (unfold inD at e; simp [itemsOf] at e))
  | mns _ _ _ => exact nomatch (show none = some c by cases a <;> first | exact e | (unfold inD at e; simp [itemsOf] at e))
theorem or_in (hK : X.K = G.K) (hu : X.A.units + 65 < cLine) : OpR X (compareOp .In) (fun x y H Q => rD G .isin [x, y] H Q) := by
  intro pins s σ H x y v u Q I rx ry ⟨Z, ds, fp, d, sb, r, e, k⟩
  obtain ⟨a, b, f, g', rfl, r1, r2⟩ := reps2 r
  obtain ⟨c, ec, rfl⟩ := map_some (show (inD a b).map D.bl = some d from e)
  exact inD_rule hK hu false I rx ry sb r1 r2 ec (fin sb fin_bl k)
theorem or_notin (hK : X.K = G.K) (hu : X.A.units + 65 < cLine) : OpR X (compareOp .NotIn) (fun x y H Q => rD G .notin [x, y] H Q) := by
  intro pins s σ H x y v u Q I rx ry ⟨Z, ds, fp, d, sb, r, e, k⟩
  obtain ⟨a, b, f, g', rfl, r1, r2⟩ := reps2 r
  obtain ⟨c, ec, rfl⟩ := map_some (show (inD a b).map (fun c => D.bl (!c)) = some d from e)
  exact inD_rule hK hu true I rx ry sb r1 r2 ec (fin sb fin_bl k)
/-! ### slices -/
def rSl (G : Gx) : V → Option Int → Option Int → Hp → VK → Prop := fun x lo hi H Q => ∃ Z a f d, Sub Z H ∧ Rep G Z H a x f ∧ slD a lo hi = some d ∧ ∀ v Z' H' f, Fr Z H Z' H' → Rep G Z' H' d v f → f.Nodup → (∀ a ∈ f, H a = none) → Q v H'
theorem cutIx_eq (n d : Nat) (o : Option Int) : cutIx n d o = HT.sIx n d o := by cases o <;> rfl
theorem cutIx_le (n d : Nat) (hd : d ≤ n) (o : Option Int) : cutIx n d o ≤ n := by rw [cutIx_eq]; exact HT.sIx_le n d hd o
theorem reps_cut {ds : List D} {vs : List V} {lo hi : Option Int} (r : Reps G Z H ds vs []) : Reps G Z H (cutD ds lo hi) (cutV vs lo hi) [] := by
  have hl := reps_len r
  unfold cutD cutV
  rw [hl, cutIx_eq, cutIx_eq]
  exact reps_take _ (reps_drop _ r)
theorem sl_D (hK : X.K = G.K) : SlR X (rSl G) := by
  intro pins s σ H x v vl vu lo hi sl Q I rx hs pl pu ⟨Z, a, f, d, sb, r, e, k⟩
  have go : ∀ l, listOf a = some l → D.mls (cutD l lo hi) = d → ∃ T id, typeLookup (.type T) "__getitem__" = pure (some (.builtin id)) ∧ s.TypeIs v T ∧ wpAny (model X.prog X.w) X.A (getItem v (.ref sl)) (EP X pins σ Q) X.xe s := by
    intro l hl ee
    subst ee
    obtain ⟨p, ws, rfl, q, rr⟩ := list_of sb hl r
    exact sl_list pins s σ H _ v vl vu lo hi sl Q I rx hs pl pu ⟨p, ws, rfl, .inl q, fin_list sb (reps_cut rr) k⟩
  cases a with
  | tup l =>
    obtain ⟨st, rfl⟩ := if_some (show (if stills l = true then some (D.tup (cutD l lo hi)) else none) = some d from e)
    obtain ⟨p, ws, rfl, q, rr⟩ := r
    have rr := rr.keep (L2.Same.refl Z) (H' := H) st
    refine sl_tupA pins s σ H _ v vl vu lo hi sl Q I rx hs pl pu ⟨p, ws, rfl, hK ▸ SqT.up sb q, fun ⟨e1, e2⟩ => ?_, fun _ => fin_tup sb (reps_cut rr) k⟩
    have ec : cutD l lo hi = l := by
      have hl := reps_len rr
      unfold cutD
      rw [cutIx_eq, cutIx_eq, ← hl, e1, e2]
      simp [hl]
    rw [ec] at k
    exact k (.ref p) Z H [] (Fr.refl sb) ⟨p, ws, rfl, q, rr⟩ List.nodup_nil fun _ h => nomatch h
  | lst l => exact go l rfl (Option.some.inj e)
  | mls l =>
    obtain ⟨st, ee⟩ := if_some (show (if stills l = true then some (D.mls (cutD l lo hi)) else none) = some d from e)
    exact go l (if_pos st) ee
  | str z =>
    obtain ⟨hz, rfl⟩ := if_some (show (if z.length ≤ 16777216 then some (D.str (cutStr z lo hi)) else none) = some d from e)
    obtain rfl : x = .str z := r.1
    refine sl_str pins s σ H _ v vl vu lo hi sl Q I rx hs pl pu ⟨z, rfl, hz, ?_⟩
    have ec : cutS z lo hi = cutStr z lo hi := by
      unfold cutS cutStr
      rw [cutIx_eq, cutIx_eq]
      have : z.length = z.cps.toList.length := by simp [Str.length]
      rw [this]
    rw [ec]
    exact fin sb fin_str k
  | _ => cases e
/-! ### isinstance -/
def tyName (n : String) : Bool := n == "int" || (n == "bool" || (n == "str" || (n == "tuple" || n == "list")))
theorem tyName_cases {n : String} (h : tyName n = true) : n = "int" ∨ n = "bool" ∨ n = "str" ∨ n = "tuple" ∨ n = "list" := by
  unfold tyName at h
  simpa using h
def rIsT (G : Gx) (n : String) : List V → Hp → VK → Prop := fun vs H Q => ∃ x, vs = [x, .ty n] ∧ rD G (.isT n) [x] H Q
theorem kit_of_ty {K : PySem.W.Frag} {t n : String} {b : Bool} (h : kitB t n = some b) : PySem.W.kitOne K (.type t) (.type n) = some b := kit_ty h
theorem cr_isT (hK : X.K = G.K) {n : String} (hn : tyName n = true) : CallR X (.builtin "isinstance") (rIsT G n) := by
  intro pins s σ H xs us Q I r ⟨x, hx, Z, ds, fp, d, sb, rr, e, k⟩
  obtain ⟨a, f, rfl, ra⟩ := reps1 rr
  obtain ⟨c, ec, rfl⟩ := map_some (show (isTD n a).map D.bl = some d from e)
  have go : ∀ t, TyX X.K H x (.type t) → kitB t n = some c → wpAny (model X.prog X.w) X.A (call (.builtin "isinstance") us) (EP X pins σ Q) X.xe s := fun t ht hkit =>
    call_isi pins s σ H xs us Q I r ⟨x, .ty n, .type t, .type n, c, hx, .ty n, ht, kit_of_ty hkit, fin sb fin_bl k⟩
  cases a with
  | non =>
    refine go "NoneType" (by rw [ra.1]; exact .base .non) ?_
    rw [← ec]
    rcases tyName_cases hn with rfl | rfl | rfl | rfl | rfl <;> decide +kernel
  | bl b =>
    refine go "bool" (by rw [ra.1]; exact .base (.bl b)) ?_
    rw [← ec]
    show kitB "bool" n = some (n == "bool" || n == "int")
    rcases tyName_cases hn with rfl | rfl | rfl | rfl | rfl <;> decide +kernel
  | int b =>
    refine go "int" (by rw [ra.1]; exact .base (.int b)) ?_
    rw [← ec]
    show kitB "int" n = some (n == "int")
    rcases tyName_cases hn with rfl | rfl | rfl | rfl | rfl <;> decide +kernel
  | str b =>
    refine go "str" (by rw [ra.1]; exact .base (.str b)) ?_
    rw [← ec]
    show kitB "str" n = some (n == "str")
    rcases tyName_cases hn with rfl | rfl | rfl | rfl | rfl <;> decide +kernel
  | tup l =>
    obtain ⟨p, ws, rfl, q, _⟩ := ra
    refine go "tuple" (.base (.tup (tup_up sb q))) ?_
    rw [← ec]
    show kitB "tuple" n = some (n == "tuple")
    rcases tyName_cases hn with rfl | rfl | rfl | rfl | rfl <;> decide +kernel
  | lst l =>
    obtain ⟨p, ws, rfl, q, _⟩ := ra
    have q := rd_up sb q
    refine go "list" (by
      rcases q with q | ⟨o, q⟩
      · exact .base (.lst q)
      · exact .base (.frz q)) ?_
    rw [← ec]
    show kitB "list" n = some (n == "list")
    rcases tyName_cases hn with rfl | rfl | rfl | rfl | rfl <;> decide +kernel
  | mls l =>
    obtain ⟨p, ws, g, rfl, q, _⟩ := ra
    refine go "list" (.base (.lst q)) ?_
    rw [← ec]
    show kitB "list" n = some (n == "list")
    rcases tyName_cases hn with rfl | rfl | rfl | rfl | rfl <;> decide +kernel
  | _ => cases ec
end
end Pd

set_option Elab.async false
set_option linter.all false
set_option maxRecDepth 100000
set_option maxHeartbeats 2000000
/-! PdX3: sorted as an operator on data. -/
namespace Pd
open PySem PySem.Spec PyProof.Rows L2
/-- two sorted lists of the same items are one -/
theorem sort_uniq {α : Type} {lt : α → α → Bool} (anti : ∀ x y, lt x y = false → lt y x = false → x = y) : ∀ {l m : List α}, l.Pairwise (fun x y => lt y x = false) → m.Pairwise (fun x y => lt y x = false) → l.Perm m → l = m
  | [], m, _, _, p => (List.perm_nil.mp p.symm).symm
  | x :: l, [], _, _, p => by have := p.length_eq; cases this
  | x :: l, y :: m, hl, hm, p => by
    obtain ⟨h1, h2⟩ := List.pairwise_cons.mp hl
    obtain ⟨k1, k2⟩ := List.pairwise_cons.mp hm
    have e : x = y := by
      rcases List.mem_cons.mp (p.mem_iff.mpr (List.mem_cons_self (a := y) (l := m))) with q | q
      · exact q.symm
      · rcases List.mem_cons.mp (p.mem_iff.mp (List.mem_cons_self (a := x) (l := l))) with q' | q'
        · exact q'
        · exact anti x y (k1 x q') (h1 y q)
    subst e
    rw [sort_uniq anti h2 k2 p.cons_inv]
theorem lexL_anti : ∀ {a b : List Int}, SrtO.lexL a b = false → SrtO.lexL b a = false → a = b
  | [], [], _, _ => rfl
  | [], _ :: _, h, _ => nomatch h
  | _ :: _, [], _, h => nomatch h
  | x :: xs, y :: ys, h, k => by
    rw [SrtO.lexL] at h k
    by_cases e : x = y
    · rw [if_pos e] at h
      rw [if_pos e.symm] at k
      rw [e, lexL_anti h k]
    · rw [if_neg e] at h
      rw [if_neg fun q => e q.symm] at k
      have := of_decide_eq_false h
      have := of_decide_eq_false k
      omega
theorem lexI_L : ∀ a b : List Int, lexI a b = SrtO.lexL a b
  | [], [] => rfl
  | [], _ :: _ => rfl
  | _ :: _, [] => rfl
  | x :: xs, y :: ys => by rw [lexI, SrtO.lexL, lexI_L xs ys]
theorem insD_perm (x : D) : ∀ ys : List D, (insD x ys).Perm (x :: ys)
  | [] => List.Perm.refl _
  | y :: ys => by
    rw [insD]
    split
    · exact List.Perm.refl _
    · exact ((insD_perm x ys).cons y).trans (List.Perm.swap x y ys)
theorem sortD_perm : ∀ ds : List D, (sortD ds).Perm ds
  | [] => List.Perm.refl _
  | d :: ds => (insD_perm d (sortD ds)).trans ((sortD_perm ds).cons d)
theorem ltD_tr {x y z : D} (h : ltD y x = false) (k : ltD z y = false) : ltD z x = false := by
  unfold ltD at *
  rw [lexI_L] at *
  exact SrtO.lexL_trans k h
theorem ltD_asym {x y : D} (h : ltD x y = true) : ltD y x = false := by
  unfold ltD at *
  rw [lexI_L] at *
  exact SrtO.lexL_asym h
theorem insD_sorted (x : D) : ∀ {ys : List D}, ys.Pairwise (fun a b => ltD b a = false) → (insD x ys).Pairwise (fun a b => ltD b a = false)
  | [], _ => List.pairwise_singleton _ _
  | y :: ys, h => by
    obtain ⟨h1, h2⟩ := List.pairwise_cons.mp h
    rw [insD]
    by_cases q : ltD x y = true
    · rw [if_pos q]
      refine List.pairwise_cons.mpr ⟨fun z hz => ?_, h⟩
      rcases List.mem_cons.mp hz with rfl | hz
      · exact ltD_asym q
      · exact ltD_tr (ltD_asym q) (h1 z hz)
    · rw [if_neg q]
      refine List.pairwise_cons.mpr ⟨fun z hz => ?_, insD_sorted x h2⟩
      rcases List.mem_cons.mp ((insD_perm x ys).mem_iff.mp hz) with rfl | hz
      · cases e : ltD z y with
        | false => rfl
        | true => exact absurd e q
      · exact h1 z hz
theorem sortD_sorted : ∀ ds : List D, (sortD ds).Pairwise (fun a b => ltD b a = false)
  | [] => List.Pairwise.nil
  | d :: ds => insD_sorted d (sortD_sorted ds)
section
variable {G : Gx} {X : Cx}
/-- the ints behind a tuple -/
def rawV : List V → List Int
  | [] => []
  | .int i :: vs => i :: rawV vs
  | _ :: vs => rawV vs
def keyV (H : Hp) : V → List Int
  | .ref t => (match H t with
    | some (.tup vs) => rawV vs
    | _ => [])
  | _ => []
theorem rawI_map : ∀ {ds : List D}, allInts ds = true → ds = (rawI ds).map D.int
  | [], _ => rfl
  | d :: ds, h => by
    cases d with
    | int i =>
      have h2 : allInts ds = true := h
      rw [rawI, List.map_cons, ← rawI_map h2]
    | _ => cases h
theorem reps_ints {Z H : Hp} : ∀ {ns : List Int} {vs : List V} {g : List Addr}, Reps G Z H (ns.map D.int) vs g → vs = ns.map V.int ∧ g = []
  | [], vs, g, r => r
  | n :: ns, vs, g, r => by
    obtain ⟨v, w, f1, f2, rfl, r1, r2, rfl⟩ := r
    obtain ⟨e1, e2⟩ := reps_ints r2
    rw [r1.1, e1, r1.2, e2]
    exact ⟨rfl, rfl⟩
theorem ints_reps {Z H : Hp} : ∀ ns : List Int, Reps G Z H (ns.map D.int) (ns.map V.int) []
  | [] => ⟨rfl, rfl⟩
  | n :: ns => ⟨.int n, ns.map V.int, [], [], rfl, ⟨rfl, rfl⟩, ints_reps ns, rfl⟩
theorem rawI_ints : ∀ ns : List Int, rawI (ns.map D.int) = ns
  | [] => rfl
  | n :: ns => congrArg (n :: ·) (rawI_ints ns)
theorem rawV_map : ∀ ns : List Int, rawV (ns.map V.int) = ns
  | [] => rfl
  | n :: ns => congrArg (n :: ·) (rawV_map ns)
/-- a value is the tuple of its ints -/
def TupV (Z H : Hp) (v : V) (d : D) : Prop := ∃ t ns, v = .ref t ∧ Z t = some (.tup (ns.map V.int)) ∧ H t = some (.tup (ns.map V.int)) ∧ ns ≠ [] ∧ d = .tup (ns.map D.int)
theorem tupV_of {Z H : Hp} (sb : Sub Z H) {d : D} {v : V} {f : List Addr} (h : (match d with | .tup xs => !xs.isEmpty && allInts xs | _ => false) = true) (r : Rep G Z H d v f) : TupV Z H v d ∧ f = [] := by
  cases d with
  | tup xs =>
    obtain ⟨h1, h2⟩ := andB (show (!xs.isEmpty && allInts xs) = true from h)
    obtain ⟨a, vs, e, s, rr⟩ := r
    have e2 := rawI_map h2
    rw [e2] at rr
    obtain ⟨e3, e4⟩ := reps_ints rr
    subst e3
    refine ⟨⟨a, rawI xs, e, s, tup_up sb s, fun q => ?_, by rw [← e2]⟩, e4⟩
    rw [q] at e2
    rw [e2] at h1
    cases h1
  | _ => cases h
theorem TupV.rep {Z H : Hp} {d : D} {v : V} (h : TupV Z H v d) : Rep G Z H d v [] := by
  obtain ⟨t, ns, rfl, s, _, _, rfl⟩ := h
  exact ⟨t, ns.map V.int, rfl, s, ints_reps ns⟩
theorem TupV.key {Z H : Hp} {d : D} {v : V} (h : TupV Z H v d) : keyV H v = dints d ∧ ∃ t, v = .ref t ∧ H t = some (.tup ((keyV H v).map V.int)) ∧ keyV H v ≠ [] := by
  obtain ⟨t, ns, rfl, _, s, hn, rfl⟩ := h
  have e1 : keyV H (.ref t) = ns := by
    show (match H t with | some (.tup vs) => rawV vs | _ => []) = ns
    rw [s]
    exact rawV_map ns
  have e2 : dints (.tup (ns.map D.int)) = ns := rawI_ints ns
  refine ⟨e1.trans e2.symm, t, rfl, ?_, ?_⟩
  · rw [e1]; exact s
  · rw [e1]; exact hn
abbrev dk (H : Hp) (x : V) : D := .tup ((keyV H x).map D.int)
theorem reps_tups {Z H : Hp} (sb : Sub Z H) : ∀ {l : List D} {ws : List V} {g : List Addr}, allTups l = true → Reps G Z H l ws g → (∀ x ∈ ws, TupV Z H x (dk H x)) ∧ l = ws.map (dk H)
  | [], ws, g, _, r => by
    obtain ⟨rfl, _⟩ := r
    exact ⟨fun x hx => (nomatch hx), rfl⟩
  | d :: l, ws, g, h, r => by
    obtain ⟨v, w, f1, f2, rfl, r1, r2, rfl⟩ := r
    obtain ⟨h1, h2⟩ := andB h
    obtain ⟨t1, _⟩ := tupV_of sb h1 r1
    obtain ⟨k1, k2⟩ := reps_tups sb h2 r2
    have e : d = dk H v := by
      obtain ⟨e1, _⟩ := t1.key
      obtain ⟨t, ns, _, _, _, _, e2⟩ := t1
      subst e2
      show _ = D.tup ((keyV H v).map D.int)
      rw [e1]
      show _ = D.tup ((rawI (ns.map D.int)).map D.int)
      rw [rawI_ints]
    refine ⟨fun x hx => ?_, by rw [List.map_cons, ← e, ← k2]⟩
    rcases List.mem_cons.mp hx with rfl | hx
    · rw [← e]; exact t1
    · exact k1 x hx
theorem reps_dk {Z H : Hp} : ∀ {ys : List V}, (∀ x ∈ ys, TupV Z H x (dk H x)) → Reps G Z H (ys.map (dk H)) ys []
  | [], _ => ⟨rfl, rfl⟩
  | y :: ys, h => ⟨y, ys, [], [], rfl, (h y List.mem_cons_self).rep, reps_dk fun x hx => h x (List.mem_cons_of_mem _ hx), rfl⟩
theorem cr_sortedD (hK : X.K = G.K) : CallR X (.builtin "sorted") (fun vs H Q => rD G .sorted vs H Q) := by
  refine cr_one (g := sortedD) (fun ds d h => ?_) fun Z H a d v f Q sb ra ea k pins s σ us I r => ?_
  · match ds, h with
    | [a], h => exact ⟨a, rfl, h⟩
  · have ea : (match lstI a with | some ds => if allTups ds = true then some (D.mls (sortD ds)) else none | none => none) = some d := ea
    cases hl : lstI a with
    | none => rw [hl] at ea; cases ea
    | some l =>
      rw [hl] at ea
      obtain ⟨ht, rfl⟩ := if_some ea
      obtain ⟨p, ws, g, rfl, q, rr⟩ := lst_i sb hl ra
      obtain ⟨k1, k2⟩ := reps_tups sb ht rr
      refine cr_sortedTI pins s σ H _ us Q I r ⟨p, ws, keyV H, rfl, by rw [hK]; exact q, fun x hx => ?_, fun ys a0 h1 h2 ha => ?_⟩
      · obtain ⟨_, t, e1, e2, e3⟩ := (k1 x hx).key
        exact ⟨⟨t, e1, e2⟩, e3⟩
      · have hy : ∀ x ∈ ys, TupV Z H x (dk H x) := fun x hx => k1 x (h2.perm.mem_iff.mp hx)
        have e : sortD l = ys.map (dk H) := by
          have m1 : ∀ m : List D, (∀ d ∈ m, ∃ x, d = dk H x) → m = (m.map dints).map fun ns => D.tup (ns.map D.int) := by
            intro m hm
            rw [List.map_map]
            conv => lhs; rw [← List.map_id m]
            refine List.map_congr_left fun d hd => ?_
            obtain ⟨x, rfl⟩ := hm d hd
            show D.tup _ = D.tup ((rawI _).map D.int)
            rw [rawI_ints]
          have m2 : (sortD l).map dints = ys.map (keyV H) := by
            refine sort_uniq (lt := SrtO.lexL) (fun x y a b => lexL_anti a b) ?_ ?_ ?_
            · refine List.pairwise_map.mpr ((sortD_sorted l).imp fun h => ?_)
              have h := h
              unfold ltD at h
              rw [lexI_L] at h
              exact h
            · exact List.pairwise_map.mpr h1
            · have e1 : l.map dints = ws.map (keyV H) := by
                rw [k2, List.map_map]
                exact List.map_congr_left fun x _ => rawI_ints _
              exact ((sortD_perm l).map dints).trans (e1 ▸ (h2.perm.map (keyV H)).symm)
          rw [m1 (sortD l) (fun d hd => by
            have := (sortD_perm l).mem_iff.mp hd
            rw [k2] at this
            obtain ⟨x, _, e⟩ := List.mem_map.mp this
            exact ⟨x, e.symm⟩), m2, List.map_map]
          rfl
        rw [e] at k
        exact fin_list sb (reps_dk hy) k a0 ha
end
end Pd

set_option Elab.async false
set_option linter.all false
set_option maxRecDepth 100000
set_option maxHeartbeats 2000000
/-! PdE: lists of expressions, operands, items, arguments. -/
namespace Pd
open PySem PySem.Spec PyProof.Rows L2

structure LPost (G : Gx) (ex : Option (Nat × V)) (pu qu : Bool) (Z H : Hp) (σ : L2.St) (F : Fp) (ds : List D) (ρ' : Env) (vs : List V) (Z' H' : Hp) (F' : Fp) (fp : List Addr) : Prop where
  env : EnvR G ex Z' H' σ ρ' F'
  reps : Reps G Z' H' ds vs fp
  pur : pu = true → F' = F
  ext : Ext qu Z H (InF F) Z' H' (InF F')
def tEs (G : Gx) (ex : Option (Nat × V)) (W : WX) (pu qu : Bool) (ev : Env → R (List D)) : TA := fun σ H Q => ∃ Z ρ F, EnvR G ex Z H σ ρ F ∧
  Okk (ev ρ) (fun ds ρ' => ∀ vs Z' H' F' fp, LPost G ex pu qu Z H σ F ds ρ' vs Z' H' F' fp → Q vs H') fun x ρ' => ∀ cls dx Z' H' F', XPost G ex qu Z H σ σ F x ρ' cls dx Z' H' F' → W cls dx σ H'
section
variable {G : Gx} {ex : Option (Nat × V)} {W : WX} {T : Tab} {X : Cx}
theorem not_true {b : Bool} (h : ¬ (b = true)) : b = false := by cases b; rfl; exact (h rfl).elim
theorem Okk.ite {α : Type} {c : Bool} {r : R α} {ko : α → Env → Prop} {kx : Exn → Env → Prop} (h : Okk (if c = true then .stk else r) ko kx) : c = false ∧ Okk r ko kx := by
  cases c with
  | true => exact h.elim
  | false => exact ⟨rfl, h⟩
theorem Okk.ite2 {α : Type} {c : Bool} {r : R α} {ko : α → Env → Prop} {kx : Exn → Env → Prop} (h : Okk (if c = true then r else .stk) ko kx) : c = true ∧ Okk r ko kx := by
  cases c with
  | true => exact ⟨rfl, h⟩
  | false => exact h.elim
theorem XPost.up {q q' : Bool} {Z H Z1 H1 Z' H' : Hp} {σ σ' : L2.St} {F F1 F' : Fp} {x : Exn} {ρ' : Env} {cls : Value} {dx : Option Addr} {P1 : Addr → Prop} (e : Ext q' Z H (InF F) Z1 H1 P1) (hp : ∀ a, InF F1 a → P1 a) (hq : q = true → q' = true) (y : XPost G ex q Z1 H1 σ σ' F1 x ρ' cls dx Z' H' F') :
    XPost G ex q Z H σ σ' F x ρ' cls dx Z' H' F' := ⟨y.env, ((e.imp hp).wk hq).trans y.ext, y.is⟩
theorem bor_false {a b : Bool} (h : (a || b) = false) : a = false ∧ b = false := Bool.or_eq_false_iff.mp h
theorem not_false {b : Bool} (h : (!b) = false) : b = true := by cases b; cases h; rfl
theorem and_false_or {a b : Bool} (h : (a && b) = false) : a = false ∨ b = false := Bool.and_eq_false_iff.mp h
mutual
theorem pur_quiet : ∀ e : E, pur e = true → quiet e = true
  | .var _, _ => rfl | .frz _, h => (nomatch h) | .mov _, h => (nomatch h) | .non, _ => rfl | .bl _, _ => rfl | .int _, _ => rfl | .str _, _ => rfl | .glob _, _ => rfl
  | .fld a _, h => pur_quiet a h
  | .ix a i, h => Bool.and_eq_true_iff.mpr ⟨pur_quiet a (andB h).1, pur_quiet i (andB h).2⟩
  | .fz a, h => pur_quiet a h
  | .bor a, h => pur_quiet a h
  | .op _ es, h => purs_quiets es h
  | .chain _ _ es, h => purs_quiets es h
  | .and a b, h => Bool.and_eq_true_iff.mpr ⟨pur_quiet a (andB h).1, pur_quiet b (andB h).2⟩
  | .or a b, h => Bool.and_eq_true_iff.mpr ⟨pur_quiet a (andB h).1, pur_quiet b (andB h).2⟩
  | .not a, h => pur_quiet a h
  | .ite c a b, h => Bool.and_eq_true_iff.mpr ⟨pur_quiet c (andB h).1, Bool.and_eq_true_iff.mpr ⟨pur_quiet a (andB (andB h).2).1, pur_quiet b (andB (andB h).2).2⟩⟩
  | .tup es, h => purs_quiets es h
  | .lst es, h => purs_quiets es h
  | .dict _ es, h => purs_quiets es h
  | .call _ _ es, h => purs_quiets es h
  | .mcall _ _ _ _ _, h => (nomatch h)
  | .make _ es, h => purs_quiets es h
  | .comp _ _ _ _ _ _, h => (nomatch h)
  | .comp2 _ _ _ _ _ _ _ _, h => (nomatch h)
  | .pop _, h => (nomatch h)
  | .isx _, _ => rfl
  | .xfld, _ => rfl
theorem purs_quiets : ∀ es : List E, purs es = true → quiets es = true
  | [], _ => rfl
  | e :: es, h => Bool.and_eq_true_iff.mpr ⟨pur_quiet e (andB h).1, purs_quiets es (andB h).2⟩
end
/-- the first operand, then the others -/
theorem cons_at {e : E} {es : List E} {k : D → Bool} {pl : Bool} {σ : L2.St} {Z H : Hp} {ρ : Env} {F : Fp} {Q : List V → Hp → Prop} (env : EnvR G ex Z H σ ρ F)
    (ok : Okk (evEs T k (e :: es) ρ) (fun ds ρ' => ∀ vs Z' H' F' fp, LPost G ex (purs (e :: es)) (quiets (e :: es)) Z H σ F ds ρ' vs Z' H' F' fp → Q vs H') fun x ρ' => ∀ cls dx Z' H' F', XPost G ex (quiets (e :: es)) Z H σ σ F x ρ' cls dx Z' H' F' → W cls dx σ H') :
    Okk (evE T e ρ) (fun d ρ1 => k d = true ∧ ∀ v Z1 H1 F1 f, EPost G ex (pur e) (quiet e) pl Z H σ F d ρ1 v Z1 H1 F1 f →
        Okk (evEs T anyD es ρ1) (fun ds ρ' => ∀ vs Z' H' F' fp, LPost G ex (purs es) (quiets es) Z1 H1 σ F1 ds ρ' vs Z' H' F' fp → Q (v :: vs) H') fun x ρ' => ∀ cls dx Z' H' F', XPost G ex (quiets es) Z1 H1 σ σ F1 x ρ' cls dx Z' H' F' → W cls dx σ H')
      (fun x ρ' => ∀ cls dx Z' H' F', XPost G ex (quiet e) Z H σ σ F x ρ' cls dx Z' H' F' → W cls dx σ H') := by
  refine (Okk.bind (show Okk ((evE T e ρ).bind _) _ _ from ok)).imp (fun d ρ1 ok1 => ?_) fun x ρ1 kx cls dx Z' H' F' xp => kx cls dx Z' H' F' ⟨xp.env, xp.ext.wk fun q => (andB q).1, xp.is⟩
  obtain ⟨hc, ok2⟩ := Okk.ite ok1
  obtain ⟨hk, hc⟩ := bor_false hc
  have hs : still d = true ∨ purs es = true := by
    rcases and_false_or hc with q | q
    · exact .inl (not_false q)
    · exact .inr (not_false q)
  refine ⟨not_false hk, fun v Z1 H1 F1 f p1 => ?_⟩
  refine (Okk.bind ok2).imp (fun ds ρ2 ok3 vs Z2 H2 F2 fp p2 => ?_) fun x ρ2 kx cls dx Z' H' F' xp => kx cls dx Z' H' F' (XPost.up (p1.ext.wk fun q => (andB q).1) (fun a ha => .inl ha) (fun q => q) ⟨xp.env, xp.ext.wk fun q => (andB q).2, xp.is⟩)
  have rd : Rep G Z2 H2 d v f := by
    rcases hs with s | s
    · have := Rep.still d v f s p1.rep
      subst this
      exact p1.rep.keep p2.ext.zz s
    · refine Rep.mono p2.ext.zz d v f (fun a ha => ?_) p1.rep
      obtain ⟨z1, o, h1, _⟩ := Rep.own d v f p1.rep a ha
      refine ⟨fun u e => p2.ext.fr a u e (.inl (purs_quiets es s)), ?_⟩
      by_cases hf : InF F1 a
      · exact (p2.env.owned (by rw [p2.pur s]; exact hf)).1
      · cases q : Z2 a with
        | none => rfl
        | some u =>
          rcases p2.ext.nz a u q z1 with r | r
          · exact (hf r).elim
          · rw [h1] at r; cases r
  refine ok3 (v :: vs) Z2 H2 F2 (f ++ fp) ⟨p2.env, ⟨v, vs, f, fp, rfl, rd, p2.reps, rfl⟩, fun q => ?_, ?_⟩
  · obtain ⟨q1, q2⟩ := andB q
    rw [p2.pur q2, p1.pur q1]
  · exact ((p1.ext.imp fun a ha => .inl ha).wk fun q => (andB q).1).trans (p2.ext.wk fun q => (andB q).2)
theorem cons_core {e : E} {es : List E} {k : D → Bool} {pl : Bool} {σ : L2.St} {H : Hp} {Q : List V → Hp → Prop} (h : tEs G ex W (purs (e :: es)) (quiets (e :: es)) (evEs T k (e :: es)) σ H Q) :
    tE G ex W (pur e) (quiet e) pl (evE T e) σ H fun v H1 => tEs G ex W (purs es) (quiets es) (evEs T anyD es) σ H1 fun vs H2 => Q (v :: vs) H2 := by
  obtain ⟨Z, ρ, F, env, ok⟩ := h
  exact ⟨Z, ρ, F, env, (cons_at env ok).imp (fun d ρ1 q v Z1 H1 F1 f p => ⟨Z1, ρ1, F1, p.env, q.2 v Z1 H1 F1 f p⟩) fun _ _ q => q⟩
theorem nil_core {k : D → Bool} {σ : L2.St} {H : Hp} {Q : List V → Hp → Prop} (h : tEs G ex W (purs []) (quiets []) (evEs T k []) σ H Q) : Q [] H := by
  obtain ⟨Z, ρ, F, env, ok⟩ := h
  exact ok [] Z H F [] ⟨env, ⟨rfl, rfl⟩, fun _ => rfl, Ext.refl⟩
/-- operands, one, two, three -/
theorem core1 {e : E} {k : D → Bool} {pl : Bool} {σ : L2.St} {H : Hp} {Q : List V → Hp → Prop} (h : tEs G ex W (purs [e]) (quiets [e]) (evEs T k [e]) σ H Q) :
    tE G ex W (pur e) (quiet e) pl (evE T e) σ H fun v H1 => Q [v] H1 := by
  have := cons_core (pl := pl) h
  obtain ⟨Z, ρ, F, env, ok⟩ := this
  exact ⟨Z, ρ, F, env, ok.imp (fun d ρ1 q v Z1 H1 F1 f p => nil_core (q v Z1 H1 F1 f p)) fun _ _ q => q⟩
theorem core2 {e e' : E} {k : D → Bool} {pl pl' : Bool} {σ : L2.St} {H : Hp} {Q : List V → Hp → Prop} (h : tEs G ex W (purs [e, e']) (quiets [e, e']) (evEs T k [e, e']) σ H Q) :
    tE G ex W (pur e) (quiet e) pl (evE T e) σ H fun v H1 => tE G ex W (pur e') (quiet e') pl' (evE T e') σ H1 fun w H2 => Q [v, w] H2 := by
  obtain ⟨Z, ρ, F, env, ok⟩ := cons_core (pl := pl) h
  exact ⟨Z, ρ, F, env, ok.imp (fun d ρ1 q v Z1 H1 F1 f p => core1 (q v Z1 H1 F1 f p)) fun _ _ q => q⟩
theorem core3 {e e' e'' : E} {k : D → Bool} {pl pl' pl'' : Bool} {σ : L2.St} {H : Hp} {Q : List V → Hp → Prop} (h : tEs G ex W (purs [e, e', e'']) (quiets [e, e', e'']) (evEs T k [e, e', e'']) σ H Q) :
    tE G ex W (pur e) (quiet e) pl (evE T e) σ H fun v H1 => tE G ex W (pur e') (quiet e') pl' (evE T e') σ H1 fun w H2 => tE G ex W (pur e'') (quiet e'') pl'' (evE T e'') σ H2 fun z H3 => Q [v, w, z] H3 := by
  obtain ⟨Z, ρ, F, env, ok⟩ := cons_core (pl := pl) h
  exact ⟨Z, ρ, F, env, ok.imp (fun d ρ1 q v Z1 H1 F1 f p => core2 (q v Z1 H1 F1 f p)) fun _ _ q => q⟩
/-- an operator: its operands, then what it makes of them -/
theorem op_at {o : Op} {es : List E} {σ : L2.St} {Z H : Hp} {ρ : Env} {F : Fp} {Q : VK}
    (ok : Okk (evE T (.op o es) ρ) (fun d ρ' => ∀ v Z' H' F' f, EPost G ex (pur (.op o es)) (quiet (.op o es)) false Z H σ F d ρ' v Z' H' F' f → Q v H') fun x ρ' => ∀ cls dx Z' H' F', XPost G ex (quiet (.op o es)) Z H σ σ F x ρ' cls dx Z' H' F' → W cls dx σ H') :
    Okk (evEs T (recvTy o) es ρ) (fun ds ρ' => (∃ d, opD o ds = some d) ∧ ∀ vs Z' H' F' fp, LPost G ex (purs es) (quiets es) Z H σ F ds ρ' vs Z' H' F' fp → rD G o vs H' Q) fun x ρ' => ∀ cls dx Z' H' F', XPost G ex (quiets es) Z H σ σ F x ρ' cls dx Z' H' F' → W cls dx σ H' := by
  refine (Okk.bind (show Okk ((evEs T (recvTy o) es ρ).bind _) _ _ from ok)).imp (fun ds ρ1 ok1 => ?_) fun x ρ1 kx => kx
  obtain ⟨d, hd, kk⟩ := Okk.of ok1
  refine ⟨⟨d, hd⟩, fun vs Z1 H1 F1 fp p1 => ⟨Z1, ds, fp, d, p1.env.sub, p1.reps, hd, fun v Z' H' f fr rep nd fresh => kk v Z' H' F1 f ⟨p1.env.fr fr, rep, nd, fun _ a ha hf => ?_, fun q => (nomatch q), p1.pur, ?_⟩⟩⟩
  · obtain ⟨_, o, h1, _⟩ := p1.env.owned hf
    rw [fresh a ha] at h1
    cases h1
  · refine p1.ext.trans (fr.ext fun a ha => ?_)
    rcases ha with ha | ha
    · exact .inl ha
    · exact .inr (fresh a ha)
theorem op_core {o : Op} {es : List E} {σ : L2.St} {H : Hp} {Q : VK} (h : tE G ex W (pur (.op o es)) (quiet (.op o es)) false (evE T (.op o es)) σ H Q) :
    tEs G ex W (purs es) (quiets es) (evEs T (recvTy o) es) σ H fun vs H1 => rD G o vs H1 Q := by
  obtain ⟨Z, ρ, F, env, ok⟩ := h
  exact ⟨Z, ρ, F, env, (op_at ok).imp (fun _ _ q => q.2) fun _ _ q => q⟩
/-- an operator whose receiver is of the right kind -/
theorem op_recv {o : Op} {e : E} {es : List E} {pl : Bool} {σ : L2.St} {H : Hp} {Q : List V → Hp → Prop} (h : tEs G ex W (purs (e :: es)) (quiets (e :: es)) (evEs T (recvTy o) (e :: es)) σ H Q) :
    tE G ex W (pur e) (quiet e) pl (evE T e) σ H fun v H1 => (∃ Z d f, Sub Z H1 ∧ Rep G Z H1 d v f ∧ recvTy o d = true) ∧ tEs G ex W (purs es) (quiets es) (evEs T anyD es) σ H1 fun vs H2 => Q (v :: vs) H2 := by
  obtain ⟨Z, ρ, F, env, ok⟩ := h
  exact ⟨Z, ρ, F, env, (cons_at env ok).imp (fun d ρ1 q v Z1 H1 F1 f p => ⟨⟨Z1, d, f, p.env.sub, p.rep, q.1⟩, Z1, ρ1, F1, p.env, q.2 v Z1 H1 F1 f p⟩) fun _ _ q => q⟩
end
/-! ### the context -/
def bnames : List Str := ["len", "abs", "int", "str", "tuple", "list", "all", "any", "sum", "min", "max", "sorted", "range", "zip", "enumerate", "isinstance", "set", "bool"]
structure XOk (G : Gx) (c : Ck) (lv : Nat) (ex : Option (Nat × V)) (W : WX) (X : Cx) : Prop where
  p : X.prog = G.P
  w : X.w = G.w
  K : X.K = G.K
  mg : X.mg = G.mg
  base : X.base = G.base
  N : X.N = c.N
  nd : c.N.Nodup
  sc : X.env.scope = c.sc
  st : ∀ x, locB c.own x = true → locB c.sc x = true → X.fn x = true ∨ X.env.scope.names.lookup x = some .local
  un : X.A.units + 100 < cLine
  calm : X.calm = !c.hot
  room : c.hot = false → Room lv X.A
  tk : Takes X W
  po : PassesOwn (model X.prog X.w) X.A X.env X.xe
  top : c.top = true → X.stack = X.env :: X.outer ∧ X.env.frame = some X.env.locals
  blt : ∀ x ∈ bnames, G.mg x = none
  exi : ∀ j a, ex = some (j, a) → c.exi = some j
section
variable {G : Gx} {c : Ck} {lv : Nat} {ex : Option (Nat × V)} {W : WX} {X : Cx} {T : Tab}
theorem glB_ok (h : XOk G c lv ex W X) {x : Str} (g : glB c.sc x = true) : Gl X x ∧ (x == ("__debug__" : Str)) = false ∧ x ≠ "__name__" := by
  obtain ⟨h1, h2⟩ := andB g
  obtain ⟨h3, h4⟩ := andB h2
  refine ⟨?_, dbgB h3, by simpa using h4⟩
  show X.env.scope.names.lookup x = some .globalImplicit
  rw [h.sc]
  split at h1
  · rename_i e; exact e
  · cases h1
theorem blt_ok (h : XOk G c lv ex W X) {x : Str} (g : x ∈ bnames) : X.mg x = none := by rw [h.mg]; exact h.blt x g
def nmB (c : Ck) (nm f : Str) : Bool := decide (f = nm) && glB c.sc f
def binX (op : Operator) (x : Expr) : Option (List Expr) := match x with
  | .BinOp a o b _ => if decide (o = op) = true then some [a, b] else none
  | _ => none
def cmpX (op : CmpOp) (x : Expr) : Option (List Expr) := match x with
  | .Compare a [o] [b] _ => if (decide (o = op) && !behindInMarks op b) = true then some [a, b] else none
  | _ => none
def call1 (c : Ck) (nm : Str) (x : Expr) : Option (List Expr) := match x with
  | .Call (.Name f _) [a] [] _ => if nmB c nm f = true then some [a] else none
  | _ => none
def call2 (c : Ck) (nm : Str) (x : Expr) : Option (List Expr) := match x with
  | .Call (.Name f _) [a, b] [] _ => if nmB c nm f = true then some [a, b] else none
  | _ => none
def methX0 (nm : Str) (x : Expr) : Option (List Expr) := match x with
  | .Call (.Attribute o m apos) [] [] pos => if (decide (m = nm) && (baseX o && apos.endLine == pos.line)) = true then some [o] else none
  | _ => none
def methX1 (nm : Str) (x : Expr) : Option (List Expr) := match x with
  | .Call (.Attribute o m apos) [a] [] pos => if (decide (m = nm) && (baseX o && apos.endLine == pos.line)) = true then some [o, a] else none
  | _ => none
def sl00 (x : Expr) : Option (List Expr) := match x with | .Subscript a (.Slice none none none _) _ => some [a] | _ => none
def sl10 (x : Expr) : Option (List Expr) := match x with | .Subscript a (.Slice (some i) none none _) _ => some [a, i] | _ => none
def sl01 (x : Expr) : Option (List Expr) := match x with | .Subscript a (.Slice none (some j) none _) _ => some [a, j] | _ => none
def sl11 (x : Expr) : Option (List Expr) := match x with | .Subscript a (.Slice (some i) (some j) none _) _ => some [a, i, j] | _ => none
/-- an operator's operands in the text -/
def opnds (c : Ck) (o : Op) (x : Expr) : Option (List Expr) := match o with
  | .add => binX .Add x | .sub => binX .Sub x | .mul => binX .Mult x | .fdiv => binX .FloorDiv x | .mod => binX .Mod x
  | .shl => binX .LShift x | .shr => binX .RShift x | .band => binX .BitAnd x | .bor => binX .BitOr x | .bxor => binX .BitXor x
  | .neg => (match x with | .UnaryOp o a _ => if decide (o = .USub) = true then some [a] else none | _ => none)
  | .lt => cmpX .Lt x | .le => cmpX .LtE x | .gt => cmpX .Gt x | .ge => cmpX .GtE x | .eq => cmpX .Eq x | .ne => cmpX .NotEq x
  | .isin => cmpX .In x | .notin => cmpX .NotIn x
  | .isN => (match x with | .Compare a [.Is] [.Constant .none _ _] _ => some [a] | _ => none)
  | .isnN => (match x with | .Compare a [.IsNot] [.Constant .none _ _] _ => some [a] | _ => none)
  | .len => call1 c "len" x | .abs => call1 c "abs" x | .int => call1 c "int" x | .str => call1 c "str" x | .tuple => call1 c "tuple" x | .list => call1 c "list" x
  | .sorted => call1 c "sorted" x
  | .all => if c.hot then none else call1 c "all" x
  | .any => if c.hot then none else call1 c "any" x
  | .sum => if c.hot then none else call1 c "sum" x
  | .min2 => if c.hot then none else call2 c "min" x
  | .max2 => if c.hot then none else call2 c "max" x
  | .sl false false => sl00 x | .sl true false => sl10 x | .sl false true => sl01 x | .sl true true => sl11 x
  | .isT n => (match x with
    | .Call (.Name f _) [a, .Name t _] [] _ => if (nmB c "isinstance" f && (nmB c (Str.ofString n) t && (tyName n && plainX a))) = true then some [a] else none
    | _ => none)
  | .join => methX1 "join" x | .split => methX1 "split" x | .starts => methX1 "startswith" x | .ends => methX1 "endswith" x
  | .bits => methX0 "bit_length" x
  | .lenset => if c.hot then none else (match x with
    | .Call (.Name f _) [.Call (.Name g _) [a] [] _] [] _ => if (nmB c "len" f && (nmB c "set" g && plainX a)) = true then some [a] else none
    | _ => none)
  | _ => none
/-- expressions and their texts -/
inductive AllE (G : Gx) (ex : Option (Nat × V)) (W : WX) (T : Tab) (X : Cx) : List E → List Expr → Prop
  | nil : AllE G ex W T X [] []
  | cons {e : E} {x : Expr} {es : List E} {xs : List Expr} (h : PE X x (tE G ex W (pur e) (quiet e) (isPlace e) (evE T e))) (p : plainX x = true) (r : AllE G ex W T X es xs) : AllE G ex W T X (e :: es) (x :: xs)
theorem AllE.plain {es : List E} {xs : List Expr} (h : AllE G ex W T X es xs) : allPlain xs = true := by
  induction h with
  | nil => rfl
  | cons _ p _ ih => exact Bool.and_eq_true_iff.mpr ⟨p, ih⟩
theorem AllE.pa : ∀ {es : List E} {xs : List Expr} {k : D → Bool}, AllE G ex W T X es xs → PA X xs (tEs G ex W (purs es) (quiets es) (evEs T k es))
  | _, _, _, .nil => PA.imp pa_nil fun σ H Q h => nil_core h
  | _, _, _, .cons h p r => PA.imp (pa_cons h (AllE.pa r) (star_eq p _ _)) fun σ H Q q => cons_core q
theorem AllE.one {es : List E} {x : Expr} (h : AllE G ex W T X es [x]) : ∃ e, es = [e] ∧ PE X x (tE G ex W (pur e) (quiet e) (isPlace e) (evE T e)) ∧ plainX x = true := by
  cases h with
  | cons h p r => cases r; exact ⟨_, rfl, h, p⟩
theorem AllE.two {es : List E} {x y : Expr} (h : AllE G ex W T X es [x, y]) : ∃ e e', es = [e, e'] ∧ (PE X x (tE G ex W (pur e) (quiet e) (isPlace e) (evE T e)) ∧ plainX x = true) ∧ PE X y (tE G ex W (pur e') (quiet e') (isPlace e') (evE T e')) ∧ plainX y = true := by
  cases h with
  | cons h p r =>
    obtain ⟨e', rfl, h', p'⟩ := r.one
    exact ⟨_, _, rfl, ⟨h, p⟩, h', p'⟩
theorem AllE.three {es : List E} {x y z : Expr} (h : AllE G ex W T X es [x, y, z]) : ∃ e e' e'', es = [e, e', e''] ∧ (PE X x (tE G ex W (pur e) (quiet e) (isPlace e) (evE T e)) ∧ plainX x = true) ∧ (PE X y (tE G ex W (pur e') (quiet e') (isPlace e') (evE T e')) ∧ plainX y = true) ∧ PE X z (tE G ex W (pur e'') (quiet e'') (isPlace e'') (evE T e'')) ∧ plainX z = true := by
  cases h with
  | cons h p r =>
    obtain ⟨e', e'', rfl, h', h''⟩ := r.two
    exact ⟨_, _, _, rfl, ⟨h, p⟩, h', h''⟩
abbrev tOpD (G : Gx) (ex : Option (Nat × V)) (W : WX) (T : Tab) (o : Op) (es : List E) : TE := tE G ex W (pur (.op o es)) (quiet (.op o es)) false (evE T (.op o es))
theorem bin_sound {o : Op} {op : Operator} {es : List E} {xs : List Expr} {x : Expr} (hx : binX op x = some xs) (hl : AllE G ex W T X es xs) (rule : OpR X (binaryOp op) (fun x y H Q => rD G o [x, y] H Q)) : PE X x (tOpD G ex W T o es) := by
  cases x with
  | BinOp a o' b pos =>
    obtain ⟨ho, rfl⟩ := if_some (show (if decide (o' = op) = true then some [a, b] else none) = some xs from hx)
    have ho := of_decide_eq_true ho
    subst ho
    obtain ⟨e, e', rfl, ⟨h1, _⟩, h2, _⟩ := hl.two
    exact PE.imp (pe_op rule h1 h2) fun σ H Q q => core2 (op_core q)
  | _ => cases hx
theorem cmp_sound {o : Op} {op : CmpOp} {es : List E} {xs : List Expr} {x : Expr} (hx : cmpX op x = some xs) (hl : AllE G ex W T X es xs) (rule : OpR X (compareOp op) (fun x y H Q => rD G o [x, y] H Q)) : PE X x (tOpD G ex W T o es) := by
  unfold cmpX at hx
  split at hx
  · rename_i a o' b pos
    obtain ⟨ho, rfl⟩ := if_some hx
    obtain ⟨ho, hm⟩ := andB ho
    have ho := of_decide_eq_true ho
    subst ho
    obtain ⟨e, e', rfl, ⟨h1, _⟩, h2, _⟩ := hl.two
    exact PE.imp (pe_cmpR rule h1 h2 (by simpa using hm)) fun σ H Q q => core2 (op_core q)
  · cases hx
theorem call1_sound {o : Op} {nm : Str} {id : String} {es : List E} {xs : List Expr} {x : Expr} (hX : XOk G c lv ex W X) (hx : call1 c nm x = some xs) (hl : AllE G ex W T X es xs) (hn : nm ∈ bnames) (hv : bootBuiltins nm = some (.builtin id))
    (rule : CallR X (.builtin id) (fun vs H Q => rD G o vs H Q)) : PE X x (tOpD G ex W T o es) := by
  unfold call1 at hx
  split at hx
  · rename_i f _ a _
    obtain ⟨ho, rfl⟩ := if_some hx
    obtain ⟨ho, hg⟩ := andB ho
    have ho := of_decide_eq_true ho
    subst ho
    obtain ⟨g1, g2, g3⟩ := glB_ok hX hg
    obtain ⟨e, rfl, h1, p1⟩ := hl.one
    exact PE.imp (pe_callB rule g1 (blt_ok hX hn) hv hl.pa g3 g2 (star_eq p1 _ _) rfl) fun σ H Q q => op_core q
  · cases hx
theorem callT_sound {o : Op} {nm : Str} {id : String} {es : List E} {xs : List Expr} {x : Expr} (hX : XOk G c lv ex W X) (hx : call1 c nm x = some xs) (hl : AllE G ex W T X es xs) (hn : nm ∈ bnames) (hv : bootBuiltins nm = some (.type id))
    (rule : CallR X (.type id) (fun vs H Q => rD G o vs H Q)) : PE X x (tOpD G ex W T o es) := by
  unfold call1 at hx
  split at hx
  · rename_i f _ a _
    obtain ⟨ho, rfl⟩ := if_some hx
    obtain ⟨ho, hg⟩ := andB ho
    have ho := of_decide_eq_true ho
    subst ho
    obtain ⟨g1, g2, g3⟩ := glB_ok hX hg
    obtain ⟨e, rfl, h1, p1⟩ := hl.one
    exact PE.imp (pe_callTy rule g1 (blt_ok hX hn) hv hl.pa g3 g2 (star_eq p1 _ _) rfl) fun σ H Q q => op_core q
  · cases hx
theorem tEs_imp {pu qu : Bool} {ev : Env → R (List D)} {σ : L2.St} {H : Hp} {Q Q' : List V → Hp → Prop} (h : tEs G ex W pu qu ev σ H Q) (k : ∀ vs H, Q vs H → Q' vs H) : tEs G ex W pu qu ev σ H Q' := by
  obtain ⟨Z, ρ, F, env, ok⟩ := h
  exact ⟨Z, ρ, F, env, ok.imp (fun _ _ q vs Z' H' F' fp p => k _ _ (q vs Z' H' F' fp p)) fun _ _ q => q⟩
theorem tE_imp {pu qu pl : Bool} {ev : Env → R D} {σ : L2.St} {H : Hp} {Q Q' : VK} (h : tE G ex W pu qu pl ev σ H Q) (k : ∀ vs H, Q vs H → Q' vs H) : tE G ex W pu qu pl ev σ H Q' := by
  obtain ⟨Z, ρ, F, env, ok⟩ := h
  exact ⟨Z, ρ, F, env, ok.imp (fun _ _ q vs Z' H' F' fp p => k _ _ (q vs Z' H' F' fp p)) fun _ _ q => q⟩
theorem call2_sound {o : Op} {nm : Str} {id : String} {es : List E} {xs : List Expr} {x : Expr} (hX : XOk G c lv ex W X) (hx : call2 c nm x = some xs) (hl : AllE G ex W T X es xs) (hn : nm ∈ bnames) (hv : bootBuiltins nm = some (.builtin id))
    (rule : CallR X (.builtin id) (fun vs H Q => ∃ x y, vs = [x, y] ∧ rD G o [x, y] H Q)) : PE X x (tOpD G ex W T o es) := by
  unfold call2 at hx
  split at hx
  · rename_i f _ a b _
    obtain ⟨ho, rfl⟩ := if_some hx
    obtain ⟨ho, hg⟩ := andB ho
    have ho := of_decide_eq_true ho
    subst ho
    obtain ⟨g1, g2, g3⟩ := glB_ok hX hg
    obtain ⟨e, e', rfl, ⟨h1, p1⟩, h2, p2⟩ := hl.two
    refine PE.imp (pe_callB rule g1 (blt_ok hX hn) hv (pa_cons h1 (pa_cons h2 pa_nil (star_eq p2 _ _)) (star_eq p1 _ _)) g3 g2 (star_eq p1 _ _) (back_plain _ (es := [b]) (Bool.and_eq_true_iff.mpr ⟨p2, rfl⟩))) fun σ H Q q => ?_
    exact tE_imp (core2 (op_core q)) fun v H1 h => tE_imp h fun w H2 h => ⟨v, w, rfl, h⟩
  · cases hx
theorem isN_sound {o : Op} {op : CmpOp} (ho : o = .isN ∧ op = .Is ∨ o = .isnN ∧ op = .IsNot) {e : E} {a : Expr} {j : Nat} {p1 pos : Pos} (h1 : PE X a (tE G ex W (pur e) (quiet e) (isPlace e) (evE T e))) :
    PE X (.Compare a [op] [.Constant .none j p1] pos) (tOpD G ex W T o [e]) := by
  rcases ho with ⟨rfl, rfl⟩ | ⟨rfl, rfl⟩
  · exact PE.imp (pe_cmpR or_isN h1 pe_non rfl) fun σ H Q q => tE_imp (core1 (op_core q)) fun v H1 h => ⟨rfl, h⟩
  · exact PE.imp (pe_cmpR or_isnN h1 pe_non rfl) fun σ H Q q => tE_imp (core1 (op_core q)) fun v H1 h => ⟨rfl, h⟩
/-- what a slice asks -/
theorem rSl_of {l h : Bool} {ds : List D} {Z H : Hp} {Q : VK} {vs : List V} {fp : List Addr} {d : D} {x : V} {lo hi : Option Int} {a : D} {f : List Addr} (sb : Sub Z H) (r : Rep G Z H a x f) (e : slD a lo hi = some d)
    (k : ∀ v Z' H' f, Fr Z H Z' H' → Rep G Z' H' d v f → f.Nodup → (∀ a ∈ f, H a = none) → Q v H') : rSl G x lo hi H Q := ⟨Z, a, f, d, sb, r, e, k⟩
theorem intOf_v {Z H : Hp} {d : D} {v : V} {f : List Addr} {i : Int} (h : intOf d = some i) (r : Rep G Z H d v f) : v = .int i := by
  cases d with
  | int j => cases h; exact r.1
  | _ => cases h
def NoX {α : Type} (r : R α) : Prop := ∀ x ρ, r ≠ .exn x ρ
theorem NoX.bind {α β : Type} {r : R α} {f : α → Env → R β} (h : NoX r) (k : ∀ a ρ, NoX (f a ρ)) : NoX (r.bind f) := by
  cases r with
  | ok a ρ => exact k a ρ
  | exn x ρ => exact (h x ρ rfl).elim
  | stk => intro x ρ e; cases e
theorem NoX.of {α : Type} {o : Option α} {ρ : Env} : NoX (R.of o ρ) := by cases o <;> (intro x ρ e; cases e)
theorem NoX.ok {α : Type} {a : α} {ρ : Env} : NoX (R.ok a ρ) := by intro x ρ e; cases e
theorem NoX.stk {α : Type} : NoX (R.stk : R α) := by intro x ρ e; cases e
theorem NoX.get {α : Type} {r : R α} {ko : α → Env → Prop} {kx : Exn → Env → Prop} (n : NoX r) (h : Okk r ko kx) : ∃ a ρ, r = .ok a ρ ∧ ko a ρ := by
  cases r with
  | ok a ρ => exact ⟨a, ρ, rfl, h⟩
  | exn x ρ => exact (n x ρ rfl).elim
  | stk => exact h.elim
mutual
theorem safe_nox (T : Tab) : ∀ (e : E) (ρ : Env), safe e = true → NoX (evE T e ρ)
  | .var i, ρ, _ => by
    rw [evE]
    split
    · exact NoX.ok
    · exact NoX.stk
  | .non, ρ, _ => by rw [evE]; exact NoX.ok
  | .bl _, ρ, _ => by rw [evE]; exact NoX.ok
  | .int _, ρ, _ => by rw [evE]; exact NoX.ok
  | .str _, ρ, _ => by rw [evE]; exact NoX.ok
  | .glob _, ρ, _ => by rw [evE]; exact NoX.of
  | .fld a f, ρ, h => by
    rw [evE]
    refine (safe_nox T a ρ h).bind fun d ρ' => ?_
    split
    · split
      · exact NoX.of
      · exact NoX.stk
    · split
      · exact NoX.of
      · exact NoX.stk
    · exact NoX.stk
  | .ix a i, ρ, h => by
    rw [evE]
    refine (safe_nox T a ρ (andB h).1).bind fun d ρ' => ?_
    split
    · exact NoX.stk
    · exact (safe_nox T i ρ' (andB h).2).bind fun k ρ2 => NoX.of
  | .op o es, ρ, h => by
    rw [evE]
    exact (safes_nox T _ es ρ h).bind fun _ _ => NoX.of
  | .not a, ρ, h => by
    rw [evE]
    exact (safe_nox T a ρ h).bind fun _ _ => NoX.of
  | .frz _, _, h => (nomatch h) | .mov _, _, h => (nomatch h) | .fz _, _, h => (nomatch h) | .bor _, _, h => (nomatch h) | .chain _ _ _, _, h => (nomatch h)
  | .and _ _, _, h => (nomatch h) | .or _ _, _, h => (nomatch h) | .ite _ _ _, _, h => (nomatch h) | .tup _, _, h => (nomatch h) | .lst _, _, h => (nomatch h) | .dict _ _, _, h => (nomatch h)
  | .call _ _ _, _, h => (nomatch h) | .mcall _ _ _ _ _, _, h => (nomatch h) | .make _ _, _, h => (nomatch h) | .comp _ _ _ _ _ _, _, h => (nomatch h) | .comp2 _ _ _ _ _ _ _ _, _, h => (nomatch h)
  | .pop _, _, h => (nomatch h) | .isx _, _, h => (nomatch h) | .xfld, _, h => (nomatch h)
theorem safes_nox (T : Tab) (k : D → Bool) : ∀ (es : List E) (ρ : Env), safes es = true → NoX (evEs T k es ρ)
  | [], ρ, _ => by rw [evEs]; exact NoX.ok
  | e :: es, ρ, h => by
    rw [evEs]
    refine (safe_nox T e ρ (andB h).1).bind fun d ρ' => ?_
    split
    · exact NoX.stk
    · exact (safes_nox T anyD es ρ' (andB h).2).bind fun _ _ => NoX.ok
end
theorem Okk.eq {α : Type} {r : R α} {ko : α → Env → Prop} {kx : Exn → Env → Prop} (h : Okk r ko kx) : Okk r (fun a ρ => r = .ok a ρ ∧ ko a ρ) kx := by
  cases r with
  | ok a ρ => exact ⟨rfl, h⟩
  | exn x ρ => exact h
  | stk => exact h
/-- a slice with both ends: the lower end is an int ahead of the upper one -/
theorem core3i {e e' e'' : E} {pl pl' pl'' : Bool} {σ : L2.St} {H : Hp} {Q : VK} (hs : safe e'' = true) (h : tE G ex W (pur (.op (.sl true true) [e, e', e''])) (quiet (.op (.sl true true) [e, e', e''])) false (evE T (.op (.sl true true) [e, e', e''])) σ H Q) :
    tE G ex W (pur e) (quiet e) pl (evE T e) σ H fun v H1 => tE G ex W (pur e') (quiet e') pl' (evE T e') σ H1 fun w H2 => ∃ i, w = .int i ∧ tE G ex W (pur e'') (quiet e'') pl'' (evE T e'') σ H2 fun z H3 => ∃ j, z = .int j ∧ rSl G v (some i) (some j) H3 Q := by
  have fin3 : ∀ (v w z : V) (H3 : Hp), rD G (.sl true true) [v, w, z] H3 Q → ∃ i j, w = .int i ∧ z = .int j ∧ rSl G v (some i) (some j) H3 Q := by
    intro v w z H3 ⟨Z, ds, fp, d, sb, r, e, k⟩
    obtain ⟨a, b, c, f, g, m, rfl, ra, rb, rc⟩ := reps3 r
    obtain ⟨i, hi, e⟩ := bind_some (show (intOf b).bind (fun i => (intOf c).bind fun j => slD a (some i) (some j)) = some d from e)
    obtain ⟨j, hj, e⟩ := bind_some e
    exact ⟨i, j, intOf_v hi rb, intOf_v hj rc, Z, a, f, d, sb, ra, e, k⟩
  obtain ⟨Z, ρ, F, env, ok⟩ := h
  have ok1 := op_at ok
  have A : ∀ d1 ρ1 d2 ρ2, evE T e ρ = .ok d1 ρ1 → evE T e' ρ1 = .ok d2 ρ2 → ∃ i, intOf d2 = some i := by
    intro d1 ρ1 d2 ρ2 e1 e2
    have q := Okk.bind (show Okk ((evE T e ρ).bind _) _ _ from ok1)
    rw [e1] at q
    obtain ⟨_, q⟩ := Okk.ite q
    have q := Okk.bind (Okk.bind (show Okk ((evEs T anyD [e', e''] ρ1).bind _) _ _ from q))
    rw [e2] at q
    obtain ⟨_, q⟩ := Okk.ite q
    have q := Okk.bind (Okk.bind (show Okk ((evEs T anyD [e''] ρ2).bind _) _ _ from q))
    obtain ⟨d3, ρ3, e3, q⟩ := (safe_nox T e'' ρ2 hs).get q
    obtain ⟨_, q⟩ := Okk.ite q
    obtain ⟨d, q⟩ := (show (∃ d, opD (.sl true true) [d1, d2, d3] = some d) ∧ _ from q).1
    obtain ⟨i, hi, _⟩ := bind_some (show (intOf d2).bind (fun i => (intOf d3).bind fun j => slD d1 (some i) (some j)) = some d from q)
    exact ⟨i, hi⟩
  refine ⟨Z, ρ, F, env, (Okk.eq (cons_at (Q := fun vs H' => rD G (.sl true true) vs H' Q) (pl := pl) env (ok1.imp (fun _ _ q => q.2) fun _ _ q => q))).imp (fun d1 ρ1 ⟨e1, _, q1⟩ v Z1 H1 F1 f1 p1 => ⟨Z1, ρ1, F1, p1.env, ?_⟩) fun _ _ q => q⟩
  refine (Okk.eq (cons_at (pl := pl') p1.env (q1 v Z1 H1 F1 f1 p1))).imp (fun d2 ρ2 ⟨e2, _, q2⟩ w Z2 H2 F2 f2 p2 => ?_) fun _ _ q => q
  obtain ⟨i, hi⟩ := A d1 ρ1 d2 ρ2 e1 e2
  refine ⟨i, intOf_v hi p2.rep, Z2, ρ2, F2, p2.env, (cons_at (pl := pl'') p2.env (q2 w Z2 H2 F2 f2 p2)).imp (fun d3 ρ3 ⟨_, q3⟩ z Z3 H3 F3 f3 p3 => ?_) fun _ _ q => q⟩
  have q4 := nil_core (W := W) ⟨Z3, ρ3, F3, p3.env, q3 z Z3 H3 F3 f3 p3⟩
  obtain ⟨i', j, h1, h2, h3⟩ := fin3 v w z H3 q4
  have : V.int i = V.int i' := (intOf_v hi p2.rep).symm.trans h1
  cases this
  exact ⟨j, h2, h3⟩
def slSafe : List E → Bool
  | [_, _, j] => safe j
  | _ => true
theorem sl_sound {l h : Bool} {es : List E} {xs : List Expr} {x : Expr} (hsf : l = true → h = true → slSafe es = true) (hX : XOk G c lv ex W X) (hx : opnds c (.sl l h) x = some xs) (hl : AllE G ex W T X es xs) : PE X x (tOpD G ex W T (.sl l h) es) := by
  cases l with
  | false =>
    cases h with
    | false =>
      replace hx : sl00 x = some xs := hx
      unfold sl00 at hx
      split at hx
      · cases hx
        obtain ⟨e, rfl, h1, _⟩ := hl.one
        refine PE.imp (pe_slice (sl_D hX.K) h1 po_none po_none) fun σ H Q q => tE_imp (core1 (op_core q)) fun v H1 ⟨Z, ds, fp, d, sb, r, e, k⟩ => ?_
        obtain ⟨a, f, rfl, ra⟩ := reps1 r
        exact ⟨Z, a, f, d, sb, ra, e, k⟩
      · cases hx
    | true =>
      replace hx : sl01 x = some xs := hx
      unfold sl01 at hx
      split at hx
      · cases hx
        obtain ⟨e, e', rfl, ⟨h1, _⟩, h2, _⟩ := hl.two
        refine PE.imp (pe_slice (sl_D hX.K) h1 po_none (po_some h2)) fun σ H Q q => tE_imp (core2 (op_core q)) fun v H1 h => tE_imp h fun w H2 ⟨Z, ds, fp, d, sb, r, e, k⟩ => ?_
        obtain ⟨a, b, f, g, rfl, ra, rb⟩ := reps2 r
        obtain ⟨j, hj, e⟩ := bind_some (show (intOf b).bind (fun j => slD a none (some j)) = some d from e)
        exact ⟨j, intOf_v hj rb, Z, a, f, d, sb, ra, e, k⟩
      · cases hx
  | true =>
    cases h with
    | false =>
      replace hx : sl10 x = some xs := hx
      unfold sl10 at hx
      split at hx
      · cases hx
        obtain ⟨e, e', rfl, ⟨h1, _⟩, h2, _⟩ := hl.two
        refine PE.imp (pe_slice (sl_D hX.K) h1 (po_some h2) po_none) fun σ H Q q => tE_imp (core2 (op_core q)) fun v H1 h => tE_imp h fun w H2 ⟨Z, ds, fp, d, sb, r, e, k⟩ => ?_
        obtain ⟨a, b, f, g, rfl, ra, rb⟩ := reps2 r
        obtain ⟨j, hj, e⟩ := bind_some (show (intOf b).bind (fun j => slD a (some j) none) = some d from e)
        exact ⟨j, intOf_v hj rb, Z, a, f, d, sb, ra, e, k⟩
      · cases hx
    | true =>
      replace hx : sl11 x = some xs := hx
      unfold sl11 at hx
      split at hx
      · cases hx
        obtain ⟨e, e', e'', rfl, ⟨h1, _⟩, ⟨h2, _⟩, h3, _⟩ := hl.three
        exact PE.imp (pe_slice (sl_D hX.K) h1 (po_some h2) (po_some h3)) fun σ H Q q => core3i (hsf rfl rfl) q
      · cases hx
end
end Pd

set_option Elab.async false
set_option linter.all false
set_option maxRecDepth 100000
set_option maxHeartbeats 2000000
/-! PdF: the operators by their texts; names, constants, fields, items. -/
namespace Pd
open PySem PySem.Spec PyProof.Rows L2
section
variable {G : Gx} {c : Ck} {lv : Nat} {ex : Option (Nat × V)} {W : WX} {X : Cx} {T : Tab}
theorem recv_str {o : Op} (ho : o = .join ∨ o = .split ∨ o = .starts ∨ o = .ends) {Z H : Hp} {d : D} {v : V} {f : List Addr} (r : Rep G Z H d v f) (h : recvTy o d = true) : ∃ a, d = .str a ∧ v = .str a := by
  rcases ho with rfl | rfl | rfl | rfl <;> (cases d <;> first | exact ⟨_, rfl, r.1⟩ | cases h)
theorem m1_sound {o : Op} (ho : o = .join ∨ o = .split ∨ o = .starts ∨ o = .ends) {nm : Str} {id : String} {es : List E} {xs : List Expr} {x : Expr} (hx : methX1 nm x = some xs) (hl : AllE G ex W T X es xs) (slot : Slot "str" nm id) (ty : typeOf (.builtin id) = Pure.pure (.type "method_descriptor")) {r : V → List V → Hp → VK → Prop} (rule : MtR X id r)
    (hr : ∀ v w H Q, rD G o [v, w] H Q → r v [w] H Q) : PE X x (tOpD G ex W T o es) := by
  unfold methX1 at hx
  split at hx
  · rename_i ob m apos a pos
    obtain ⟨hc, rfl⟩ := if_some hx
    obtain ⟨h1, h2⟩ := andB hc
    obtain ⟨h2, h3⟩ := andB h2
    have h1 := of_decide_eq_true h1
    subst h1
    obtain ⟨e, e', rfl, ⟨k1, p1⟩, k2, p2⟩ := hl.two
    refine PE.imp (pe_m1 slot ty rule k1 k2 (star_eq p2 _ _) (base_eq h2 _ _) h3) fun σ H Q q => ?_
    have q2 := op_recv (pl := isPlace e) (op_core q)
    refine tE_imp q2 fun v H1 ⟨⟨Z, d, f, sb, rd, hr2⟩, q3⟩ => ⟨?_, tE_imp (core1 q3) fun w H2 q4 => hr v w H2 Q q4⟩
    obtain ⟨a, _, h⟩ := recv_str ho rd hr2
    exact ⟨a, h⟩
  · cases hx
theorem str2_D {o : Op} {g : Str → Str → Option D} (ho : ∀ a b, opD o [a, b] = str2 g a b) {v w : V} {H : Hp} {Q : VK} (h : rD G o [v, w] H Q) : ∃ a b d Z, v = .str a ∧ w = .str b ∧ g a b = some d ∧ Sub Z H ∧ ∀ v Z' H' f, Fr Z H Z' H' → Rep G Z' H' d v f → f.Nodup → (∀ a ∈ f, H a = none) → Q v H' := by
  obtain ⟨Z, ds, fp, d, sb, r, e, k⟩ := h
  obtain ⟨a, b, f, g', rfl, r1, r2⟩ := reps2 r
  obtain ⟨i, j, rfl, rfl, eg⟩ := str2_inv ((ho a b).symm.trans e)
  exact ⟨i, j, d, Z, r1.1, r2.1, eg, sb, k⟩
theorem reps_strs {Z H : Hp} : ∀ ys : List Str, Reps G Z H (ys.map D.str) (ys.map V.str) []
  | [] => ⟨rfl, rfl⟩
  | y :: ys => ⟨.str y, ys.map V.str, [], [], rfl, ⟨rfl, rfl⟩, reps_strs ys, rfl⟩
/-- which operators this look knows, and what they ask besides -/
def opSafe (o : Op) (es : List E) : Bool := match o with
  | .sl true true => slSafe es
  | _ => true
theorem cntU_eq {α : Type} [DecidableEq α] : ∀ xs : List α, PdSet.cntU xs = distinct xs
  | [] => rfl
  | x :: xs => by rw [PdSet.cntU, distinct, cntU_eq xs]
theorem op_sound (o : Op) {es : List E} {xs : List Expr} {x : Expr} (hX : XOk G c lv ex W X) (hs : opSafe o es = true) (hx : opnds c o x = some xs) (hl : AllE G ex W T X es xs) : PE X x (tOpD G ex W T o es) := by
  have hu := hX.un
  have hK := hX.K
  have calm : c.hot = false → X.calm = true := fun h => by rw [hX.calm, h]; rfl
  cases o with
  | add => exact bin_sound hx hl (or_add hK)
  | sub => exact bin_sound hx hl or_sub
  | mul => exact bin_sound hx hl or_mul
  | fdiv => exact bin_sound hx hl or_fdiv
  | mod => exact bin_sound hx hl or_mod
  | shl => exact bin_sound hx hl or_shl
  | shr => exact bin_sound hx hl or_shr
  | band => exact bin_sound hx hl or_band
  | bor => exact bin_sound hx hl or_bor
  | bxor => exact bin_sound hx hl or_bxor
  | neg =>
    unfold opnds at hx
    simp only at hx
    split at hx
    · obtain ⟨ho, rfl⟩ := if_some hx
      have ho := of_decide_eq_true ho
      subst ho
      obtain ⟨e, rfl, h1, _⟩ := hl.one
      exact PE.imp (pe_un ur_neg h1) fun σ H Q q => core1 (op_core q)
    · cases hx
  | lt => exact cmp_sound hx hl or_lt
  | le => exact cmp_sound hx hl or_le
  | gt => exact cmp_sound hx hl or_gt
  | ge => exact cmp_sound hx hl or_ge
  | eq => exact cmp_sound hx hl (or_eq hK (by omega))
  | ne => exact cmp_sound hx hl (or_ne hK (by omega))
  | isin => exact cmp_sound hx hl (or_in hK (by omega))
  | notin => exact cmp_sound hx hl (or_notin hK (by omega))
  | isN =>
    unfold opnds at hx
    simp only at hx
    split at hx
    · cases hx
      obtain ⟨e, rfl, h1, _⟩ := hl.one
      exact isN_sound (.inl ⟨rfl, rfl⟩) h1
    · cases hx
  | isnN =>
    unfold opnds at hx
    simp only at hx
    split at hx
    · cases hx
      obtain ⟨e, rfl, h1, _⟩ := hl.one
      exact isN_sound (.inr ⟨rfl, rfl⟩) h1
    · cases hx
  | len => exact call1_sound hX hx hl (by decide) (by decide +kernel) (cr_len hK)
  | abs => exact call1_sound hX hx hl (by decide) (by decide +kernel) cr_abs
  | int => exact callT_sound hX hx hl (by decide) (by decide +kernel) cr_int
  | str => exact callT_sound hX hx hl (by decide) (by decide +kernel) cr_str
  | tuple => exact callT_sound hX hx hl (by decide) (by decide +kernel) (cr_tuple hK)
  | list => exact callT_sound hX hx hl (by decide) (by decide +kernel) (cr_list hK)
  | sorted => exact call1_sound hX hx hl (by decide) (by decide +kernel) (cr_sortedD hK)
  | all =>
    by_cases h : c.hot = true
    · exact nomatch (show none = some xs by rw [← hx]; unfold opnds; simp [h])
    · have h := not_true h
      exact call1_sound (nm := "all") hX (by rw [← hx]; unfold opnds; simp [h]) hl (by decide) (by decide +kernel) (cr_allD hK (calm h))
  | any =>
    by_cases h : c.hot = true
    · exact nomatch (show none = some xs by rw [← hx]; unfold opnds; simp [h])
    · have h := not_true h
      exact call1_sound (nm := "any") hX (by rw [← hx]; unfold opnds; simp [h]) hl (by decide) (by decide +kernel) (cr_anyD hK (calm h))
  | sum =>
    by_cases h : c.hot = true
    · exact nomatch (show none = some xs by rw [← hx]; unfold opnds; simp [h])
    · have h := not_true h
      exact call1_sound (nm := "sum") hX (by rw [← hx]; unfold opnds; simp [h]) hl (by decide) (by decide +kernel) (cr_sumD hK (calm h))
  | min2 =>
    by_cases h : c.hot = true
    · exact nomatch (show none = some xs by rw [← hx]; unfold opnds; simp [h])
    · have h := not_true h
      exact call2_sound (nm := "min") hX (by rw [← hx]; unfold opnds; simp [h]) hl (by decide) (by decide +kernel) (cr_min2 (calm h))
  | max2 =>
    by_cases h : c.hot = true
    · exact nomatch (show none = some xs by rw [← hx]; unfold opnds; simp [h])
    · have h := not_true h
      exact call2_sound (nm := "max") hX (by rw [← hx]; unfold opnds; simp [h]) hl (by decide) (by decide +kernel) (cr_max2 (calm h))
  | sl l h => exact sl_sound (fun e1 e2 => by subst e1 e2; exact hs) hX hx hl
  | isT n =>
    unfold opnds at hx
    simp only at hx
    split at hx
    · rename_i f _ a t _ _
      obtain ⟨ho, rfl⟩ := if_some hx
      obtain ⟨k1, k2⟩ := andB ho
      obtain ⟨k2, k3⟩ := andB k2
      obtain ⟨k3, k4⟩ := andB k3
      obtain ⟨f1, f2⟩ := andB k1
      obtain ⟨t1, t2⟩ := andB k2
      have f1 := of_decide_eq_true f1
      have t1 := of_decide_eq_true t1
      subst f1 t1
      obtain ⟨g1, g2, g3⟩ := glB_ok hX f2
      obtain ⟨u1, u2, u3⟩ := glB_ok hX t2
      obtain ⟨e, rfl, h1, p1⟩ := hl.one
      have hb : Str.ofString n ∈ bnames ∧ bootBuiltins (Str.ofString n) = some (.type n) := by
        rcases tyName_cases k3 with rfl | rfl | rfl | rfl | rfl <;> exact ⟨by decide +kernel, by decide +kernel⟩
      have hty : ∀ pos, PE X (.Name (Str.ofString n) pos) (tC (.ty n)) := fun pos => pe_bltn u1 (blt_ok hX hb.1) hb.2 rfl u3 u2
      refine PE.imp (pe_callB (cr_isT hK k3) g1 (blt_ok hX (by decide)) (by decide +kernel) (pa_cons h1 (pa_cons (hty _) pa_nil rfl) (star_eq p1 _ _)) g3 g2 (star_eq p1 _ _) rfl) fun σ H Q q => ?_
      exact tE_imp (core1 (op_core q)) fun v H1 h => ⟨v, rfl, h⟩
    · cases hx
  | lenset =>
    unfold opnds at hx
    simp only at hx
    split at hx
    · cases hx
    · rename_i hh
      split at hx
      · rename_i f _ g _ a _ _
        obtain ⟨ho, rfl⟩ := if_some hx
        obtain ⟨k1, k2⟩ := andB ho
        obtain ⟨k2, k3⟩ := andB k2
        obtain ⟨f1, f2⟩ := andB k1
        obtain ⟨t1, t2⟩ := andB k2
        have f1 := of_decide_eq_true f1
        have t1 := of_decide_eq_true t1
        subst f1 t1
        obtain ⟨g1, _, _⟩ := glB_ok hX f2
        obtain ⟨u1, _, _⟩ := glB_ok hX t2
        obtain ⟨e, rfl, h1, p1⟩ := hl.one
        refine PE.imp (PdSet.pe_lenTxt (calm (not_true hh)) g1 (blt_ok hX (by decide)) u1 (blt_ok hX (by decide)) h1 (star_eq p1 _ _)) fun σ H Q q => ?_
        refine tE_imp (core1 (op_core q)) fun v H1 ⟨Z, ds, fp, d, sb, r, e, k⟩ => ?_
        obtain ⟨a, f, rfl, r1⟩ := reps1 r
        replace e : lensetD a = some d := e
        unfold lensetD at e
        split at e
        · rename_i l h2
          split at e
          · rename_i ys h3
            obtain ⟨hz, rfl⟩ := if_some e
            obtain ⟨p, ws, g, rfl, hq, rr⟩ := lst_i sb h2 r1
            have e2 := strs_vs h3 rr
            subst e2
            refine ⟨p, ys, rfl, by rw [hK]; exact hq, hz, ?_⟩
            rw [cntU_eq]
            exact fin sb fin_int k
          · cases e
        · cases e
      · cases hx
  | join =>
    refine m1_sound (.inl rfl) hx hl F.slot_str_join F.type_str_join mt_join fun v w H Q h => ?_
    obtain ⟨Z, ds, fp, d, sb, r, e, k⟩ := h
    obtain ⟨a, b, f, g', rfl, r1, r2⟩ := reps2 r
    replace e : joinD a b = some d := e
    unfold joinD at e
    split at e
    · rename_i z ys h2
      obtain ⟨hz, rfl⟩ := if_some e
      obtain ⟨l, h3, h4⟩ := bind_some h2
      obtain ⟨p, ws, g, rfl, hq, rr⟩ := items_of sb h3 r2
      have e2 := strs_vs h4 rr
      subst e2
      exact ⟨z, p, ys, r1.1, rfl, by rw [hK]; exact hq, hz, fin sb fin_str k⟩
    · cases e
  | split =>
    refine m1_sound (.inr (.inl rfl)) hx hl F.slot_str_split F.type_str_split mt_split fun v w H Q h => ?_
    obtain ⟨a, b, d, Z, rfl, rfl, e, sb, k⟩ := str2_D (fun _ _ => rfl) h
    obtain ⟨⟨h1, h2⟩, rfl⟩ := if_some (show (if (b.length == 0) = false ∧ a.length + 2 ≤ 16777216 then some (D.mls ((Txt.split a b).map .str)) else none) = some d from e)
    exact ⟨a, b, rfl, rfl, h1, h2, fin_list sb (reps_strs _) k⟩
  | starts =>
    refine m1_sound (.inr (.inr (.inl rfl))) hx hl F.slot_str_startswith F.type_str_startswith mt_startswith fun v w H Q h => ?_
    obtain ⟨a, b, d, Z, rfl, rfl, e, sb, k⟩ := str2_D (fun _ _ => rfl) h
    cases e
    exact ⟨a, b, rfl, rfl, fin sb fin_bl k⟩
  | ends =>
    refine m1_sound (.inr (.inr (.inr rfl))) hx hl F.slot_str_endswith F.type_str_endswith mt_endswith fun v w H Q h => ?_
    obtain ⟨a, b, d, Z, rfl, rfl, e, sb, k⟩ := str2_D (fun _ _ => rfl) h
    cases e
    exact ⟨a, b, rfl, rfl, fin sb fin_bl k⟩
  | bits =>
    replace hx : methX0 "bit_length" x = some xs := hx
    unfold methX0 at hx
    split at hx
    · rename_i ob m apos pos
      obtain ⟨hc, rfl⟩ := if_some hx
      obtain ⟨h1, h2⟩ := andB hc
      obtain ⟨h2, h3⟩ := andB h2
      have h1 := of_decide_eq_true h1
      subst h1
      obtain ⟨e, rfl, k1, p1⟩ := hl.one
      refine PE.imp (pe_bits k1 (base_eq h2 _ _) h3) fun σ H Q q => tE_imp (core1 (op_core q)) fun v H1 ⟨Z, ds, fp, d, sb, r, e, k⟩ => ?_
      obtain ⟨a, f, rfl, ra⟩ := reps1 r
      cases a with
      | int i =>
        cases (show some (D.int (Builtin.Int.intBits i)) = some d from e)
        exact ⟨i, ra.1, fin sb fin_int k⟩
      | _ => cases (show none = some d from e)
    · cases hx
  | _ => cases hx
end
/-! ### slots -/
def upF (F : Fp) (i : Nat) (f : List Addr) : Fp := fun j => if j = i then f else F j
theorem upF_same {F : Fp} {i : Nat} {f : List Addr} : upF F i f i = f := if_pos rfl
theorem upF_ne {F : Fp} {i j : Nat} {f : List Addr} (h : j ≠ i) : upF F i f j = F j := if_neg h
theorem inF_up {F : Fp} {i : Nat} {f : List Addr} {a : Addr} (h : InF (upF F i f) a) : a ∈ f ∨ ∃ j, j ≠ i ∧ a ∈ F j := by
  obtain ⟨j, h⟩ := h
  by_cases e : j = i
  · subst e; rw [upF_same] at h; exact .inl h
  · rw [upF_ne e] at h; exact .inr ⟨j, e, h⟩
section
variable {G : Gx} {c : Ck} {lv : Nat} {ex : Option (Nat × V)} {W : WX} {X : Cx} {T : Tab} {Z H : Hp} {σ : L2.St} {ρ : Env} {F : Fp}
/-- a slot gets another value -/
theorem EnvR.put (e : EnvR G ex Z H σ ρ F) {i : Nat} (hi : i < ρ.length) {x : Option D} {y : Option V} {f : List Addr} (hx : ∀ d, x = some d → ∃ v, y = some v ∧ Rep G Z H d v f) (hn : x = none → f = []) (hf : f.Nodup) (hd : ∀ a ∈ f, ∀ j, j ≠ i → a ∉ F j)
    (hex : ∀ j a, ex = some (j, a) → j ≠ i) : EnvR G ex Z H (σ.set i y) (ρ.set i x) (upF F i f) where
  len := by simp [e.len]
  at_ := fun j d hj => by
    by_cases h : j = i
    · subst h
      rw [List.getElem?_set] at hj
      simp only [if_true] at hj
      split at hj
      · rename_i hlt
        obtain ⟨v, h1, h2⟩ := hx d (Option.some.inj hj)
        refine ⟨v, ?_, by rw [upF_same]; exact h2⟩
        rw [List.getElem?_set]
        simp only [if_true]
        rw [if_pos (by rw [← e.len]; exact hlt), h1]
      · rename_i hlt; exact absurd hi hlt
    · rw [List.getElem?_set_ne (Ne.symm h)] at hj ⊢
      obtain ⟨v, h1, h2⟩ := e.at_ j d hj
      exact ⟨v, h1, by rw [upF_ne h]; exact h2⟩
  off := fun j hj => by
    by_cases h : j = i
    · subst h
      rw [upF_same]
      cases x with
      | none => exact hn rfl
      | some d => exact (hj d (by rw [List.getElem?_set]; simp [hi])).elim
    · rw [upF_ne h]
      exact e.off j fun d hq => hj d (by rw [List.getElem?_set_ne (Ne.symm h)]; exact hq)
  nd := fun j => by
    by_cases h : j = i
    · subst h; rw [upF_same]; exact hf
    · rw [upF_ne h]; exact e.nd j
  dj := fun j k a h1 h2 => by
    by_cases hj : j = i
    · by_cases hk : k = i
      · rw [hj, hk]
      · subst hj
        rw [upF_same] at h1
        rw [upF_ne hk] at h2
        exact (hd a h1 k hk h2).elim
    · by_cases hk : k = i
      · subst hk
        rw [upF_same] at h2
        rw [upF_ne hj] at h1
        exact (hd a h2 j hj h1).elim
      · rw [upF_ne hj] at h1
        rw [upF_ne hk] at h2
        exact e.dj j k a h1 h2
  sub := e.sub
  exs := fun j a h => by
    rw [List.getElem?_set_ne (Ne.symm (hex j a h))]
    exact e.exs j a h
theorem getSlot {i : Nat} {d : D} (h : ρ[i]? = some (some d)) : i < ρ.length := (List.getElem?_eq_some_iff.mp h).1
/-! ### names -/
theorem slotB_ok (hX : XOk G c lv ex W X) {i : Nat} {x : Str} (h : slotB c i x = true) : X.N[i]? = some x ∧ Vis X.env.scope x ∧ (x == ("__debug__" : Str)) = false ∧ (x == ("__classdict__" : Str)) = false := by
  obtain ⟨h1, h2⟩ := andB h
  obtain ⟨h2, h3⟩ := andB h2
  obtain ⟨h3, h4⟩ := andB h3
  exact ⟨by rw [hX.N]; exact of_decide_eq_true h1, by rw [hX.sc]; exact visB_ok h2, dbgB h3, dbgB h4⟩
theorem EPost.same {d : D} {v : V} {f : List Addr} {pl : Bool} (env : EnvR G ex Z H σ ρ F) (rep : Rep G Z H d v f) (nd : f.Nodup) (val : pl = false → ∀ a ∈ f, ¬ InF F a) (plc : ∀ a ∈ f, InF F a) : EPost G ex true true pl Z H σ F d ρ v Z H F f :=
  ⟨env, rep, nd, val, fun _ => plc, fun _ => rfl, ⟨L2.Same.refl _, fun _ _ e _ => e, fun a o e n => (by rw [n] at e; cases e), fun a h => .inl (h.elim (fun q => q) (plc a))⟩⟩
theorem var_sound (hX : XOk G c lv ex W X) {i : Nat} {x : Str} {pos : Pos} (h : slotB c i x = true) : PE X (.Name x pos) (tE G ex W true true true (evE T (.var i))) := by
  obtain ⟨h1, h2, h3, h4⟩ := slotB_ok hX h
  refine PE.imp (pe_var h1 h2 h3 h4) fun σ H Q ⟨Z, ρ, F, env, ok⟩ => ?_
  rw [evE] at ok
  split at ok
  · rename_i d hd
    obtain ⟨v, hv, r⟩ := env.at_ i d hd
    exact ⟨v, hv, ok v Z H F (F i) (EPost.same env r (env.nd i) (fun q => nomatch q) fun a ha => ⟨i, ha⟩)⟩
  · exact ok.elim
theorem fz_sub {f : List Addr} (s : Sub Z H) (h : ∀ a ∈ f, ∃ o, H a = some o) : Sub (fz Z H f) H := fun a o e => by
  unfold fz at e
  by_cases ha : a ∈ f
  · rw [if_pos ha] at e; exact .inl e
  · rw [if_neg ha] at e; exact s a o e
/-- a value is frozen: the slots that don't hold it stand -/
theorem EnvR.fz (env : EnvR G ex Z H σ ρ F) {f : List Addr} (hown : ∀ a ∈ f, Z a = none ∧ ∃ o, H a = some o) (hd : ∀ a ∈ f, ¬ InF F a) : EnvR G ex (fz Z H f) H σ ρ F := by
  refine env.mono (fz_same fun a ha => (hown a ha).1) (fun a ha => ⟨fun o e => e, ?_⟩) (fz_sub env.sub fun a ha => (hown a ha).2)
  unfold Pd.fz
  rw [if_neg fun q => hd a q ha]
  exact (env.owned ha).1
theorem frz_sound (hX : XOk G c lv ex W X) (hex : ∀ j a, ex = some (j, a) → c.exi = some j) {i : Nat} (hi : c.exi ≠ some i) {x : Str} {pos : Pos} (h : slotB c i x = true) : PE X (.Name x pos) (tE G ex W false true false (evE T (.frz i))) := by
  obtain ⟨h1, h2, h3, h4⟩ := slotB_ok hX h
  refine PE.imp (pe_var h1 h2 h3 h4) fun σ H Q ⟨Z, ρ, F, env, ok⟩ => ?_
  rw [evE] at ok
  split at ok
  · rename_i d hd
    obtain ⟨v, hv, r⟩ := env.at_ i d hd
    have own := Rep.own d v _ r
    have hown : ∀ a ∈ F i, Z a = none ∧ ∃ o, H a = some o := fun a ha => let ⟨h1, o, h2, _⟩ := own a ha; ⟨h1, o, h2⟩
    -- the slot is emptied first, then what it held is frozen
    have e1 := env.put (getSlot hd) (x := none) (y := some v) (f := []) (fun d q => nomatch q) (fun _ => rfl) List.nodup_nil (fun a ha => nomatch ha) (fun j a q e => hi (by rw [← e]; exact hex j a q))
    have hd2 : ∀ a ∈ F i, ¬ InF (upF F i []) a := fun a ha q => by
      rcases inF_up q with q | ⟨j, hj, q⟩
      · cases q
      · exact hj (env.dj j i a q ha)
    have e2 := e1.fz hown hd2
    have rz : Rep G (fz Z H (F i)) H (Pd.frz d) v [] := Rep.frz d v _ r (fz_same fun a ha => (hown a ha).1) fun a ha => fz_at ha
    have e3 := e2.put (i := i) (by rw [List.length_set]; exact getSlot hd) (x := some (Pd.frz d)) (y := some v) (f := []) (fun d' q => by cases q; exact ⟨v, rfl, rz⟩) (fun q => nomatch q) List.nodup_nil (fun a ha => nomatch ha) (fun j a q e => hi (by rw [← e]; exact hex j a q))
    rw [List.set_set, List.set_set] at e3
    have hσ : σ.set i (some v) = σ := by
      obtain ⟨hlt, he⟩ := List.getElem?_eq_some_iff.mp hv
      rw [← he, List.set_getElem_self]
    rw [hσ] at e3
    refine ⟨v, hv, ok v _ H _ [] ⟨e3, rz, List.nodup_nil, fun _ a ha => (nomatch ha), fun q => (nomatch q), fun q => (nomatch q), ⟨fz_same fun a ha => (hown a ha).1, fun _ _ e _ => e, fun a o e n => ?_, fun a ha => ?_⟩⟩⟩
    · by_cases hf : a ∈ F i
      · exact .inl ⟨i, hf⟩
      · unfold Pd.fz at e
        rw [if_neg hf, n] at e
        cases e
    · rcases ha with ha | ha
      · rcases inF_up ha with q | ⟨j, hj, q⟩
        · cases q
        · rw [upF_ne hj] at q
          exact .inl ⟨j, q⟩
      · cases ha
  · exact ok.elim
theorem mov_sound (hX : XOk G c lv ex W X) (hex : ∀ j a, ex = some (j, a) → c.exi = some j) {i : Nat} (hi : c.exi ≠ some i) {x : Str} {pos : Pos} (h : slotB c i x = true) : PE X (.Name x pos) (tE G ex W false true false (evE T (.mov i))) := by
  obtain ⟨h1, h2, h3, h4⟩ := slotB_ok hX h
  refine PE.imp (pe_var h1 h2 h3 h4) fun σ H Q ⟨Z, ρ, F, env, ok⟩ => ?_
  rw [evE] at ok
  split at ok
  · rename_i d hd
    obtain ⟨v, hv, r⟩ := env.at_ i d hd
    have e1 := env.put (getSlot hd) (x := none) (y := some v) (f := []) (fun d q => nomatch q) (fun _ => rfl) List.nodup_nil (fun a ha => nomatch ha) (fun j a q e => hi (by rw [← e]; exact hex j a q))
    have hσ : σ.set i (some v) = σ := by
      obtain ⟨hlt, he⟩ := List.getElem?_eq_some_iff.mp hv
      rw [← he, List.set_getElem_self]
    rw [hσ] at e1
    refine ⟨v, hv, ok v Z H _ (F i) ⟨e1, r, env.nd i, fun _ a ha q => ?_, fun q => (nomatch q), fun q => (nomatch q), ⟨L2.Same.refl _, fun _ _ e _ => e, fun a o e n => (by rw [n] at e; cases e), fun a ha => ?_⟩⟩⟩
    · rcases inF_up q with q | ⟨j, hj, q⟩
      · cases q
      · exact hj (env.dj j i a q ha)
    · rcases ha with ha | ha
      · rcases inF_up ha with q | ⟨j, hj, q⟩
        · cases q
        · exact .inl ⟨j, q⟩
      · exact .inl ⟨i, ha⟩
  · exact ok.elim
theorem const_sound {d : D} {v : V} {e : Expr} (ho : PE X e (tC v)) (r : ∀ Z H, Rep G Z H d v []) {ev : E} (he : ∀ ρ, evE T ev ρ = .ok d ρ) {pl : Bool} : PE X e (tE G ex W true true false (evE T ev)) := by
  refine PE.imp ho fun σ H Q ⟨Z, ρ, F, env, ok⟩ => ?_
  rw [he] at ok
  exact ok v Z H F [] (EPost.same env (r Z H) List.nodup_nil (fun _ a ha => nomatch ha) fun a ha => nomatch ha)
end
end Pd

set_option Elab.async false
set_option linter.all false
set_option maxRecDepth 100000
set_option maxHeartbeats 2000000
/-! PdG: globals, fields, items, freezing, chains, and, or, not, if, displays. -/
namespace Pd
open PySem PySem.Spec PyProof.Rows L2
/-- an expression's reading -/
abbrev tEE (G : Gx) (ex : Option (Nat × V)) (W : WX) (T : Tab) (e : E) : TE := tE G ex W (pur e) (quiet e) (isPlace e) (evE T e)
section
variable {G : Gx} {c : Ck} {lv : Nat} {ex : Option (Nat × V)} {W : WX} {X : Cx} {T : Tab}
theorem if_some' {α : Type} {c : Prop} [Decidable c] {a : Option α} {d : α} (h : (if c then a else none) = some d) : c ∧ a = some d := by
  by_cases q : c
  · rw [if_pos q] at h; exact ⟨q, h⟩
  · rw [if_neg q] at h; cases h
theorem glob_sound (hX : XOk G c lv ex W X) {j : Nat} {d : D} {v : V} {u : Value} {x : Str} {pos : Pos} (hd : T.gls[j]? = some d) (hg : glB c.sc x = true) (hm : G.mg x = some u) (r : RelV v u) (rep : ∀ Z H, Rep G Z H d v []) : PE X (.Name x pos) (tEE G ex W T (.glob j)) := by
  obtain ⟨g1, g2, _⟩ := glB_ok hX hg
  refine const_sound (pl := false) (pe_glob g1 (by rw [hX.mg]; exact hm) r g2) rep fun ρ => ?_
  rw [evE, hd]
  rfl
theorem EPost.part {pu qu pl : Bool} {Z H Z' H' : Hp} {σ : L2.St} {F F' : Fp} {d d' : D} {ρ' : Env} {v v' : V} {f f' : List Addr} (p : EPost G ex pu qu pl Z H σ F d ρ' v Z' H' F' f) (r : Rep G Z' H' d' v' f') (hs : ∀ a ∈ f', a ∈ f) (nd : f'.Nodup) :
    EPost G ex pu qu pl Z H σ F d' ρ' v' Z' H' F' f' :=
  ⟨p.env, r, nd, fun q a ha => p.val q a (hs a ha), fun q a ha => p.plc q a (hs a ha), p.pur, p.ext.imp fun a ha => ha.imp id (hs a)⟩
theorem look_f {Z H : Hp} {f : Str} : ∀ {ns : List Str} {ds : List D} {vs : List V} {fp : List Addr} {d : D}, lookF f ns ds = some d → Reps G Z H ds vs fp → ∃ v g, (ns.zip vs).lookup f = some v ∧ Rep G Z H d v g ∧ (∀ a ∈ g, a ∈ fp) ∧ (fp.Nodup → g.Nodup)
  | [], _, _, _, _, h, _ => by simp [lookF] at h
  | n :: ns, [], _, _, _, h, _ => by simp [lookF] at h
  | n :: ns, e :: ds, vs, fp, d, h, r => by
    obtain ⟨v, w, f1, f2, rfl, r1, r2, rfl⟩ := r
    rw [lookF] at h
    by_cases q : n = f
    · subst q
      rw [if_pos rfl] at h
      cases h
      refine ⟨v, f1, ?_, r1, fun a ha => List.mem_append_left _ ha, fun nd => (List.nodup_append.mp nd).1⟩
      simp [List.zip_cons_cons, List.lookup]
    · rw [if_neg q] at h
      obtain ⟨v', g, h1, h2, h3, h4⟩ := look_f h r2
      refine ⟨v', g, ?_, h2, fun a ha => List.mem_append_right _ (h3 a ha), fun nd => h4 (List.nodup_append.mp nd).2.1⟩
      have hne : (f == n) = false := beq_eq_false_iff_ne.mpr fun e => q e.symm
      rw [List.zip_cons_cons, List.lookup, hne]
      exact h1
theorem ins_up {Z H : Hp} {a : Addr} {C : Addr} {dx : Addr} {fs : List (Str × V)} (s : Sub Z H) (h : Z a = some (.ins C dx fs)) : H a = some (.ins C dx fs) := by
  rcases s _ _ h with q | ⟨q, _⟩
  · exact q
  · exact q.elim
theorem fld_sound (hK : X.K = G.K) (hf : ∀ c' f, T.flds.contains (c', f) = true → Cls G.K (G.cad c') ∧ NoAttr G.K (G.cad c') f) {a : E} {f : Str} {x : Expr} {pos : Pos} (ha : PE X x (tEE G ex W T a)) (hb : baseX x = true) :
    PE X (.Attribute x f pos) (tEE G ex W T (.fld a f)) := by
  refine PE.imp (pe_fld ha (base_eq hb _ _)) fun σ H Q ⟨Z, ρ, F, env, ok⟩ => ?_
  rw [evE] at ok
  refine ⟨Z, ρ, F, env, (Okk.bind ok).imp (fun d ρ1 ok1 v Z1 H1 F1 f1 p1 => ?_) fun _ _ q => q⟩
  have fin : ∀ (c' : Nat) (ns : List Str) (ds : List D) (a' : Addr) (dx : Addr) (vs : List V) (g : List Addr), v = .ref a' → H1 a' = some (.ins (G.cad c') dx (ns.zip vs)) → Reps G Z1 H1 ds vs g → (∀ b ∈ g, b ∈ f1) → g.Nodup →
      Okk (if T.flds.contains (c', f) then R.of (lookF f ns ds) ρ1 else .stk) (fun d ρ' => ∀ v Z' H' F' f', EPost G ex (pur (.fld a f)) (quiet (.fld a f)) (isPlace (.fld a f)) Z H σ F d ρ' v Z' H' F' f' → Q v H') (fun x ρ' => ∀ cls dx Z' H' F', XPost G ex (quiet (.fld a f)) Z H σ σ F x ρ' cls dx Z' H' F' → W cls dx σ H') →
      ∃ (b : Addr) (C : Addr) (dx : Addr) (fs : List (Str × V)) (v' : V), v = .ref b ∧ H1 b = some (.ins C dx fs) ∧ Cls X.K C ∧ NoAttr X.K C f ∧ fs.lookup f = some v' ∧ Q v' H1 := by
    intro c' ns ds a' dx vs g hv hh rr hs nd okk
    obtain ⟨h1, h2⟩ := Okk.ite2 okk
    obtain ⟨d', hd', h3⟩ := Okk.of h2
    obtain ⟨k1, k2⟩ := hf c' f h1
    obtain ⟨v', g', l1, l2, l3, l4⟩ := look_f hd' rr
    exact ⟨a', G.cad c', dx, ns.zip vs, v', hv, hh, by rw [hK]; exact k1, by rw [hK]; exact k2, l1, h3 v' Z1 H1 F1 g' (p1.part l2 (fun b hb => hs b (l3 b hb)) (l4 nd))⟩
  cases d with
  | ins c' ns ds =>
    obtain ⟨a', dx, vs, e, s, l, rr, q⟩ := p1.rep
    exact fin c' ns ds a' dx vs [] e (ins_up p1.env.sub s) rr (fun _ h => nomatch h) List.nodup_nil ok1
  | mns c' ns ds =>
    obtain ⟨a', dx, vs, g, e, s, z, l, rr, q⟩ := p1.rep
    have nd := p1.nd
    rw [q] at nd
    exact fin c' ns ds a' dx vs g e s rr (fun b hb => by rw [q]; exact List.mem_cons_of_mem _ hb) (List.nodup_cons.mp nd).2 ok1
  | _ => exact ok1.elim
/-! ### items -/
theorem atD_v {Z H : Hp} {ds : List D} {vs : List V} {fp : List Addr} {i : Int} {d : D} (h : atD ds i = some d) (r : Reps G Z H ds vs fp) : ∃ v g, atI vs i = some v ∧ Rep G Z H d v g ∧ (∀ a ∈ g, a ∈ fp) ∧ (fp.Nodup → g.Nodup) := by
  obtain ⟨j, hj, hd⟩ := bind_some h
  obtain ⟨v, g, h1, h2, h3, h4⟩ := reps_get r hd
  refine ⟨v, g, ?_, h2, h3, h4⟩
  unfold atI
  have e : ixN vs.length i = some j := by
    rw [reps_len r]
    unfold ixD at hj
    unfold ixN
    exact hj
  rw [e]
  exact h1
/-- the first stands while the second is asked -/
theorem EPost.stay {pu qu pl : Bool} {a i : E} {Z H Z1 H1 Z2 H2 : Hp} {σ : L2.St} {F F1 F2 : Fp} {d k : D} {ρ1 ρ2 : Env} {v w : V} {f g : List Addr} {pli : Bool} (p1 : EPost G ex pu qu pl Z H σ F d ρ1 v Z1 H1 F1 f) (p2 : EPost G ex (Pd.pur i) (quiet i) pli Z1 H1 σ F1 k ρ2 w Z2 H2 F2 g)
    (h : still d = true ∨ Pd.pur i = true) : EPost G ex (pu && Pd.pur i) (qu && quiet i) pl Z H σ F d ρ2 v Z2 H2 F2 f := by
  have hr : Rep G Z2 H2 d v f := p1.later (ρ := ρ1) p2 (h.imp id fun q => ⟨q, pur_quiet i q⟩)
  refine ⟨p2.env, hr, p1.nd, fun q b hb => ?_, fun q b hb => ?_, fun q => ?_, ?_⟩
  · rcases h with h | h
    · rw [Rep.still d v f h p1.rep] at hb; cases hb
    · rw [p2.pur h]; exact p1.val q b hb
  · rcases h with h | h
    · rw [Rep.still d v f h p1.rep] at hb; cases hb
    · rw [p2.pur h]; exact p1.plc q b hb
  · obtain ⟨q1, q2⟩ := andB q
    rw [p2.pur q2, p1.pur q1]
  · have x1 : Ext (qu && quiet i) Z H (InF F) Z1 H1 (fun b => InF F1 b ∨ b ∈ f) := p1.ext.wk fun q => (andB q).1
    rcases h with h | h
    · have e := Rep.still d v f h p1.rep
      subst e
      have x2 : Ext (qu && quiet i) Z1 H1 (InF F1) Z2 H2 (fun b => InF F2 b ∨ b ∈ g) := p2.ext.wk fun q => (andB q).2
      exact ((x1.imp fun b hb => .inl hb).trans x2).imp fun b hb => hb.elim .inl fun q => nomatch q
    · have x2 : Ext true Z1 H1 (InF F1) Z2 H2 (fun b => InF F2 b ∨ b ∈ g) := by
        have := p2.ext
        rw [pur_quiet i h] at this
        exact this
      refine x1.trans ⟨x2.zz, fun b o e q => x2.fr b o e (.inl rfl), fun b o e n => (x2.nz b o e n).imp .inl id, fun b hb => ?_⟩
      rcases hb with hb | hb
      · rw [p2.pur h] at hb; exact .inl (.inl hb)
      · exact .inl (.inr hb)
theorem ix_sound (hK : X.K = G.K) (hu : X.A.units + 1 < cLine) {a i : E} {x y : Expr} {pos : Pos} (ha : PE X x (tEE G ex W T a)) (hi : PE X y (tEE G ex W T i)) (hp : plainX y = true) : PE X (.Subscript x y pos) (tEE G ex W T (.ix a i)) := by
  refine PE.imp (PE.or (pe_ix ix_seq ha hi (plainIx hp)) (pe_dget hu ha hi (plainIx hp))) fun σ H Q ⟨Z, ρ, F, env, ok⟩ => ?_
  rw [evE] at ok
  have ok0 := (Okk.bind ok).imp (ko' := fun d ρ1 => (still d = true ∨ pur i = true) ∧ ∀ v Z1 H1 F1 f1, EPost G ex (pur a) (quiet a) (isPlace a) Z H σ F d ρ1 v Z1 H1 F1 f1 →
      Okk (evE T i ρ1) (fun k ρ2 => ∃ d', ixOf d k = some d' ∧ ∀ w Z2 H2 F2 f2, EPost G ex (pur i) (quiet i) (isPlace i) Z1 H1 σ F1 k ρ2 w Z2 H2 F2 f2 → EPost G ex (pur (.ix a i)) (quiet (.ix a i)) (isPlace (.ix a i)) Z H σ F d ρ2 v Z2 H2 F2 f1 ∧ ∀ v' f', Rep G Z2 H2 d' v' f' → (∀ b ∈ f', b ∈ f1) → f'.Nodup → Q v' H2)
        (fun x ρ' => ∀ cls dx Z' H' F', XPost G ex (quiet i) Z1 H1 σ σ F1 x ρ' cls dx Z' H' F' → W cls dx σ H'))
    (kx' := fun x ρ' => ∀ cls dx Z' H' F', XPost G ex (quiet a) Z H σ σ F x ρ' cls dx Z' H' F' → W cls dx σ H') (fun d ρ1 ok1 => by
      obtain ⟨hc, ok2⟩ := Okk.ite ok1
      have hs : still d = true ∨ pur i = true := (and_false_or hc).imp not_false not_false
      refine ⟨hs, fun v Z1 H1 F1 f1 p1 => (Okk.bind ok2).imp (fun k ρ2 ok3 => ?_) fun x ρ2 kx cls dx Z' H' F' xp => kx cls dx Z' H' F' (XPost.up (p1.ext.wk fun q => (andB q).1) (fun b hb => .inl hb) id ⟨xp.env, xp.ext.wk fun q => (andB q).2, xp.is⟩)⟩
      obtain ⟨d', hd', h3⟩ := Okk.of ok3
      refine ⟨d', hd', fun w Z2 H2 F2 f2 p2 => ?_⟩
      have p3 : EPost G ex (pur (.ix a i)) (quiet (.ix a i)) (isPlace (.ix a i)) Z H σ F d ρ2 v Z2 H2 F2 f1 := EPost.stay (a := a) p1 p2 hs
      exact ⟨p3, fun v' f' r hsub nd => h3 v' Z2 H2 F2 f' (p3.part r hsub nd)⟩) fun x ρ' kx cls dx Z' H' F' xp => kx cls dx Z' H' F' ⟨xp.env, xp.ext.wk fun q => (andB q).1, xp.is⟩
  have sq : ∀ d ρ1, evE T a ρ = .ok d ρ1 → (∀ k d', ixOf d k = some d' → ∃ n : Int, k = .int n ∧ ((∃ s cc, d = .str s ∧ s.length ≤ sizeLine ∧ atI s.cps.toList n = some cc ∧ d' = .str ⟨#[cc]⟩) ∨ ∃ ds, itemsOf d = some ds ∧ atD ds n = some d')) →
      tOp (rIx X.K) (tEE G ex W T a) (tEE G ex W T i) σ H Q := by
    intro d ρ1 he hh
    refine ⟨Z, ρ, F, env, ?_⟩
    rw [he] at ok0 ⊢
    intro v Z1 H1 F1 f1 p1
    refine ⟨Z1, ρ1, F1, p1.env, (ok0.2 v Z1 H1 F1 f1 p1).imp (fun k ρ2 ⟨d', hd', kk⟩ w Z2 H2 F2 f2 p2 => ?_) fun _ _ q => q⟩
    obtain ⟨p3, k2⟩ := kk w Z2 H2 F2 f2 p2
    obtain ⟨n, rfl, h⟩ := hh k d' hd'
    have hw : w = .int n := p2.rep.1
    rcases h with ⟨s, cc, rfl, hl, hc, rfl⟩ | ⟨ds, hds, hat⟩
    · exact .inr (.inr ⟨s, n, cc, p3.rep.1, hw, hl, hc, k2 _ [] ⟨rfl, rfl⟩ (fun _ q => nomatch q) List.nodup_nil⟩)
    · have nd := p3.nd
      cases d with
      | tup xs =>
        cases hds
        obtain ⟨b, vs, e, s, r⟩ := p3.rep
        obtain ⟨v', g, h1, h2, h3, h4⟩ := atD_v hat r
        exact .inr (.inl ⟨b, vs, n, v', e, hw, by rw [hK]; exact SqT.up p3.env.sub s, h1, k2 v' g h2 h3 (h4 nd)⟩)
      | lst xs =>
        cases hds
        obtain ⟨b, vs, e, s, r, q⟩ := p3.rep
        obtain ⟨v', g, h1, h2, h3, h4⟩ := atD_v hat r
        exact .inl ⟨b, vs, n, v', e, hw, .inl (rd_up p3.env.sub s), h1, k2 v' g h2 (fun b hb => nomatch h3 b hb) (h4 List.nodup_nil)⟩
      | mls xs =>
        cases hds
        obtain ⟨b, vs, f, e, s, z, r, q⟩ := p3.rep
        obtain ⟨v', g, h1, h2, h3, h4⟩ := atD_v hat r
        rw [q] at nd
        exact .inl ⟨b, vs, n, v', e, hw, .inl (.inl s), h1, k2 v' g h2 (fun b hb => by rw [q]; exact List.mem_cons_of_mem _ (h3 b hb)) (h4 (List.nodup_cons.mp nd).2)⟩
      | _ => cases hds
  have dq : ∀ d ρ1, evE T a ρ = .ok d ρ1 → (∃ t ks ds, d = .dct t ks ds ∨ d = .mdc t ks ds) → tDGet (tEE G ex W T a) (tEE G ex W T i) σ H Q := by
    intro d ρ1 he hh
    refine ⟨Z, ρ, F, env, ?_⟩
    rw [he] at ok0 ⊢
    intro v Z1 H1 F1 f1 p1
    refine ⟨Z1, ρ1, F1, p1.env, (ok0.2 v Z1 H1 F1 f1 p1).imp (fun k ρ2 ⟨d', hd', kk⟩ w Z2 H2 F2 f2 p2 => ?_) fun _ _ q => q⟩
    obtain ⟨p3, k2⟩ := kk w Z2 H2 F2 f2 p2
    obtain ⟨t, ks, ds, hh⟩ := hh
    have hx : ixOf d k = if keyOk t k = true then lookD k ks ds else none := by rcases hh with rfl | rfl <;> rfl
    rw [hx] at hd'
    obtain ⟨h1, h2⟩ := if_some' hd'
    have go : ∀ (b : Addr) (vs : List V) (o : HO) (g : List Addr), v = .ref b → (Z2 b = some o ∨ H2 b = some o) → dctObj t ks vs o → Reps G Z2 H2 ds vs g → g = [] → ∃ a v', v = V.ref a ∧ DGet H2 a w (some v') ∧ Q v' H2 := by
      intro b vs o g e hz l r hg
      have q := dget_of p3.env.sub hz l r h1 p2.rep
      rw [h2] at q
      obtain ⟨v', f', q1, q2, q3⟩ := q
      have hf : f' = [] := List.eq_nil_iff_forall_not_mem.mpr fun a ha => by have := q3 a ha; rw [hg] at this; cases this
      subst hf
      exact ⟨b, v', e, q1, k2 v' [] q2 (fun _ q => nomatch q) List.nodup_nil⟩
    have rr := p3.rep
    rcases hh with rfl | rfl
    · obtain ⟨b, vs, o, e, s, l, r, q⟩ := rr
      exact go b vs o [] e (.inl s) l r rfl
    · obtain ⟨b, vs, o, e, s, z, l, r, q⟩ := rr
      exact go b vs o [] e (.inr s) l r rfl
  cases he : evE T a ρ with
  | exn x' ρ1 =>
    rw [he] at ok0
    refine .inl ⟨Z, ρ, F, env, ?_⟩
    rw [he]
    exact ok0
  | stk => rw [he] at ok0; exact ok0.elim
  | ok d ρ1 =>
    cases d with
    | dct t ks ds => exact .inr (dq _ _ he ⟨t, ks, ds, .inl rfl⟩)
    | mdc t ks ds => exact .inr (dq _ _ he ⟨t, ks, ds, .inr rfl⟩)
    | str s =>
      refine .inl (sq _ _ he fun k d' h => ?_)
      cases k with
      | int n =>
        obtain ⟨hl, h⟩ := if_some' (show (if s.length ≤ 16777216 then (ixD s.cps.toList.length n).bind fun j => s.cps.toList[j]?.map fun c => D.str ⟨#[c]⟩ else none) = some d' from h)
        obtain ⟨j, hj, h⟩ := bind_some h
        obtain ⟨cc, hc, h⟩ := map_some h
        exact ⟨n, rfl, .inl ⟨s, cc, rfl, hl, by unfold atI ixN; unfold ixD at hj; rw [hj]; exact hc, h.symm⟩⟩
      | _ => cases (show none = some d' from h)
    | tup ds => exact .inl (sq _ _ he fun k d' h => by
        cases k with
        | int n => exact ⟨n, rfl, .inr ⟨ds, rfl, h⟩⟩
        | _ => cases (show none = some d' from h))
    | lst ds => exact .inl (sq _ _ he fun k d' h => by
        cases k with
        | int n => exact ⟨n, rfl, .inr ⟨ds, rfl, h⟩⟩
        | _ => cases (show none = some d' from h))
    | mls ds => exact .inl (sq _ _ he fun k d' h => by
        cases k with
        | int n => exact ⟨n, rfl, .inr ⟨ds, rfl, h⟩⟩
        | _ => cases (show none = some d' from h))
    | _ => exact .inl (sq _ _ he fun k d' h => nomatch (show none = some d' from h))
end
end Pd

set_option Elab.async false
set_option linter.all false
set_option maxRecDepth 100000
set_option maxHeartbeats 2000000
/-! PdH: and, or, not, if, freezing, displays, arguments. -/
namespace Pd
open PySem PySem.Spec PyProof.Rows L2
abbrev KO (G : Gx) (ex : Option (Nat × V)) (pu qu pl : Bool) (Z H : Hp) (σ : L2.St) (F : Fp) (Q : VK) : D → Env → Prop := fun d ρ' => ∀ v Z' H' F' f, EPost G ex pu qu pl Z H σ F d ρ' v Z' H' F' f → Q v H'
abbrev KX (G : Gx) (ex : Option (Nat × V)) (W : WX) (qu : Bool) (Z H : Hp) (σ : L2.St) (F : Fp) : Exn → Env → Prop := fun x ρ' => ∀ cls dx Z' H' F', XPost G ex qu Z H σ σ F x ρ' cls dx Z' H' F' → W cls dx σ H'
section
variable {G : Gx} {c : Ck} {lv : Nat} {ex : Option (Nat × V)} {W : WX} {X : Cx} {T : Tab}
theorem EPost.seq {pu qu pl pu2 qu2 pl2 pu' qu' : Bool} {Z H Z1 H1 Z2 H2 : Hp} {σ : L2.St} {F F1 F2 : Fp} {d d' : D} {ρ1 ρ2 : Env} {v v' : V} {f f' : List Addr} (p1 : EPost G ex pu qu pl Z H σ F d ρ1 v Z1 H1 F1 f) (p2 : EPost G ex pu2 qu2 pl2 Z1 H1 σ F1 d' ρ2 v' Z2 H2 F2 f')
    (h1 : pu' = true → pu = true ∧ pu2 = true) (h2 : qu' = true → qu = true ∧ qu2 = true) : EPost G ex pu' qu' pl2 Z H σ F d' ρ2 v' Z2 H2 F2 f' :=
  ⟨p2.env, p2.rep, p2.nd, p2.val, p2.plc, fun q => by rw [p2.pur (h1 q).2, p1.pur (h1 q).1], ((p1.ext.imp fun a ha => .inl ha).wk fun q => (h2 q).1).trans (p2.ext.wk fun q => (h2 q).2)⟩
/-- an expression, then more -/
theorem seq_at {a : E} {k : D → Env → R D} {pu qu pl pu2 qu2 : Bool} {Z H : Hp} {σ : L2.St} {ρ : Env} {F : Fp} {Q : VK} (h1 : pu = true → pur a = true ∧ pu2 = true) (h2 : qu = true → quiet a = true ∧ qu2 = true)
    (ok : Okk ((evE T a ρ).bind k) (KO G ex pu qu pl Z H σ F Q) (KX G ex W qu Z H σ F)) :
    Okk (evE T a ρ) (fun d ρ1 => ∀ v Z1 H1 F1 f1, EPost G ex (pur a) (quiet a) (isPlace a) Z H σ F d ρ1 v Z1 H1 F1 f1 → Okk (k d ρ1) (KO G ex pu2 qu2 pl Z1 H1 σ F1 Q) (KX G ex W qu2 Z1 H1 σ F1)) (KX G ex W (quiet a) Z H σ F) := by
  refine (Okk.bind ok).imp (fun d ρ1 ok1 v Z1 H1 F1 f1 p1 => ok1.imp (fun d' ρ2 kk v' Z2 H2 F2 f2 p2 => kk v' Z2 H2 F2 f2 (p1.seq p2 h1 h2)) fun x ρ2 kx cls dx Z' H' F' xp => ?_) fun x ρ' kx cls dx Z' H' F' xp => kx cls dx Z' H' F' ⟨xp.env, xp.ext.wk fun q => (h2 q).1, xp.is⟩
  exact kx cls dx Z' H' F' (XPost.up (p1.ext.wk fun q => (h2 q).1) (fun b hb => .inl hb) id ⟨xp.env, xp.ext.wk fun q => (h2 q).2, xp.is⟩)
/-- a value that is held from now on is no view -/
theorem EPost.unpl {pu qu pl : Bool} {Z H Z' H' : Hp} {σ : L2.St} {F F' : Fp} {d : D} {ρ' : Env} {v : V} {f : List Addr} (p : EPost G ex pu qu pl Z H σ F d ρ' v Z' H' F' f) (h : pl = false ∨ still d = true) : EPost G ex pu qu false Z H σ F d ρ' v Z' H' F' f :=
  ⟨p.env, p.rep, p.nd, fun _ a ha => (by
    rcases h with h | h
    · exact p.val h a ha
    · rw [Rep.still d v f h p.rep] at ha; cases ha), fun q => (nomatch q), p.pur, p.ext⟩
theorem unpl_at {b : E} {pu qu : Bool} {Z H : Hp} {σ : L2.St} {ρ : Env} {F : Fp} {Q : VK} (ok : Okk ((evE T b ρ).bind fun d ρ2 => if (isPlace b && !still d) = true then .stk else .ok d ρ2) (KO G ex pu qu false Z H σ F Q) (KX G ex W qu Z H σ F)) :
    Okk (evE T b ρ) (KO G ex pu qu (isPlace b) Z H σ F Q) (KX G ex W qu Z H σ F) := by
  refine (Okk.bind ok).imp (fun d ρ1 ok1 v Z1 H1 F1 f1 p1 => ?_) fun _ _ q => q
  obtain ⟨hc, kk⟩ := Okk.ite ok1
  exact kk v Z1 H1 F1 f1 (p1.unpl ((and_false_or hc).imp id not_false))
theorem EPost.stop {pu qu pl : Bool} {Z H : Hp} {σ : L2.St} {F : Fp} {d : D} {ρ : Env} {v : V} (env : EnvR G ex Z H σ ρ F) (r : Rep G Z H d v []) : EPost G ex pu qu pl Z H σ F d ρ v Z H F [] :=
  ⟨env, r, List.nodup_nil, fun _ _ h => (nomatch h), fun _ _ h => (nomatch h), fun _ => rfl, Ext.refl.imp fun a h => h.elim id fun q => (nomatch q)⟩
theorem truth_v {Z H : Hp} {d : D} {v : V} {f : List Addr} {b : Bool} (sb : Sub Z H) (h : truth d = some b) (r : Rep G Z H d v f) : TruV G.K v H b := by
  cases d with
  | non => rw [r.1]; cases h; rfl
  | bl c => rw [r.1]; cases h; rfl
  | int i => rw [r.1]; cases h; rfl
  | str s =>
    rw [r.1]
    obtain ⟨h1, h2⟩ := if_some (show (if s.length ≤ 16777216 then some ((s.length : Int) != 0) else none) = some b from h)
    exact ⟨h1, h2.symm⟩
  | tup ds =>
    obtain ⟨a, vs, e, s, rr⟩ := r
    rw [e]
    cases h
    refine .inr (.inl ⟨vs, SqT.up sb s, ?_⟩)
    have := reps_len rr
    cases ds <;> cases vs <;> first | rfl | cases this
  | lst ds =>
    obtain ⟨a, vs, e, s, rr, q⟩ := r
    rw [e]
    cases h
    refine .inl ⟨vs, .inl (rd_up sb s), ?_⟩
    have := reps_len rr
    cases ds <;> cases vs <;> first | rfl | cases this
  | mls ds =>
    obtain ⟨a, vs, g, e, s, z, rr, q⟩ := r
    rw [e]
    cases h
    refine .inl ⟨vs, .inl (.inl s), ?_⟩
    have := reps_len rr
    cases ds <;> cases vs <;> first | rfl | cases this
  | _ => cases h
theorem and_sound (hK : X.K = G.K) {a b : E} {x y : Expr} {rest : List Expr} {pos : Pos} (ha : PE X x (tEE G ex W T a)) (hb : PE X (.BoolOp .And (y :: rest) pos) (tEE G ex W T b)) : PE X (.BoolOp .And (x :: y :: rest) pos) (tEE G ex W T (.and a b)) := by
  refine PE.imp (pe_andT ha hb) fun σ H Q ⟨Z, ρ, F, env, ok⟩ => ?_
  rw [evE] at ok
  refine ⟨Z, ρ, F, env, (seq_at (pu2 := pur b) (qu2 := quiet b) (fun q => andB q) (fun q => andB q) ok).imp (fun d ρ1 h v Z1 H1 F1 f1 p1 => ?_) fun _ _ q => q⟩
  have ok1 := h v Z1 H1 F1 f1 p1
  split at ok1
  · rename_i ht
    refine ⟨true, by rw [hK]; exact truth_v p1.env.sub ht p1.rep, ?_⟩
    exact ⟨Z1, ρ1, F1, p1.env, unpl_at ok1⟩
  · rename_i ht
    refine ⟨false, by rw [hK]; exact truth_v p1.env.sub ht p1.rep, ?_⟩
    obtain ⟨hs, kk⟩ := Okk.ite2 ok1
    have := Rep.still d v f1 hs p1.rep
    subst this
    exact kk v Z1 H1 F1 [] (EPost.stop p1.env p1.rep)
  · exact ok1.elim
theorem or_sound (hK : X.K = G.K) {a b : E} {x y : Expr} {rest : List Expr} {pos : Pos} (ha : PE X x (tEE G ex W T a)) (hb : PE X (.BoolOp .Or (y :: rest) pos) (tEE G ex W T b)) : PE X (.BoolOp .Or (x :: y :: rest) pos) (tEE G ex W T (.or a b)) := by
  refine PE.imp (pe_orT ha hb) fun σ H Q ⟨Z, ρ, F, env, ok⟩ => ?_
  rw [evE] at ok
  refine ⟨Z, ρ, F, env, (seq_at (pu2 := pur b) (qu2 := quiet b) (fun q => andB q) (fun q => andB q) ok).imp (fun d ρ1 h v Z1 H1 F1 f1 p1 => ?_) fun _ _ q => q⟩
  have ok1 := h v Z1 H1 F1 f1 p1
  split at ok1
  · rename_i ht
    refine ⟨false, by rw [hK]; exact truth_v p1.env.sub ht p1.rep, ?_⟩
    exact ⟨Z1, ρ1, F1, p1.env, unpl_at ok1⟩
  · rename_i ht
    refine ⟨true, by rw [hK]; exact truth_v p1.env.sub ht p1.rep, ?_⟩
    obtain ⟨hs, kk⟩ := Okk.ite2 ok1
    have := Rep.still d v f1 hs p1.rep
    subst this
    exact kk v Z1 H1 F1 [] (EPost.stop p1.env p1.rep)
  · exact ok1.elim
theorem not_sound (hK : X.K = G.K) {a : E} {x : Expr} {pos : Pos} (ha : PE X x (tEE G ex W T a)) : PE X (.UnaryOp .Not x pos) (tEE G ex W T (.not a)) := by
  refine PE.imp (pe_notT ha) fun σ H Q ⟨Z, ρ, F, env, ok⟩ => ?_
  rw [evE] at ok
  refine ⟨Z, ρ, F, env, (seq_at (pu2 := true) (qu2 := true) (fun q => ⟨q, rfl⟩) (fun q => ⟨q, rfl⟩) ok).imp (fun d ρ1 h v Z1 H1 F1 f1 p1 => ?_) fun _ _ q => q⟩
  obtain ⟨d', hd, kk⟩ := Okk.of (h v Z1 H1 F1 f1 p1)
  obtain ⟨b, ht, e⟩ := map_some hd
  subst e
  exact ⟨b, by rw [hK]; exact truth_v p1.env.sub ht p1.rep, kk _ Z1 H1 F1 [] (EPost.stop p1.env ⟨rfl, rfl⟩)⟩
/-! ### tests -/
def tT (G : Gx) (ex : Option (Nat × V)) (W : WX) (pu qu : Bool) (ev : Env → R Bool) : TT := fun σ H Q => ∃ Z ρ F, EnvR G ex Z H σ ρ F ∧
  Okk (ev ρ) (fun b ρ' => ∀ Z' H' F', EnvR G ex Z' H' σ ρ' F' → (pu = true → F' = F) → Ext qu Z H (InF F) Z' H' (InF F') → Q b H') (KX G ex W qu Z H σ F)
abbrev tTT (G : Gx) (ex : Option (Nat × V)) (W : WX) (T : Tab) (e : E) : TT := tT G ex W (pur e) (quiet e) (evT T e)
/-- a test by its value -/
theorem test_val {e : E} {σ : L2.St} {H : Hp} {Q : Bool → Hp → Prop} (h : tTT G ex W T e σ H Q) : tEE G ex W T e σ H fun x H' => ∃ k, TruV G.K x H' k ∧ Q k H' := by
  obtain ⟨Z, ρ, F, env, ok⟩ := h
  refine ⟨Z, ρ, F, env, (Okk.bind ok).imp (fun d ρ1 ok1 v Z1 H1 F1 f1 p1 => ?_) fun _ _ q => q⟩
  obtain ⟨b, hb, kk⟩ := Okk.of ok1
  exact ⟨b, truth_v p1.env.sub hb p1.rep, kk Z1 H1 F1 p1.env p1.pur (p1.ext.imp fun a ha => .inl ha)⟩
theorem test_sound (hK : X.K = G.K) {e : E} {x : Expr} (hx : PE X x (tEE G ex W T e)) (he : ∀ whole, isTrue x X.env whole = (do let v ← whole; standAt x.pos; holding [v] (truthy v))) : PT X x (tTT G ex W T e) :=
  PT.imp (pt_truth hx he) fun σ H Q h => by rw [hK]; exact test_val h
/-- a test, then more -/
theorem tseq {a : E} {k : Bool → Env → R Bool} {pu qu pu2 qu2 : Bool} {Z H : Hp} {σ : L2.St} {ρ : Env} {F : Fp} {Q : Bool → Hp → Prop} (h1 : pu = true → pur a = true ∧ pu2 = true) (h2 : qu = true → quiet a = true ∧ qu2 = true)
    (ok : Okk ((evT T a ρ).bind k) (fun b ρ' => ∀ Z' H' F', EnvR G ex Z' H' σ ρ' F' → (pu = true → F' = F) → Ext qu Z H (InF F) Z' H' (InF F') → Q b H') (KX G ex W qu Z H σ F)) :
    Okk (evT T a ρ) (fun b ρ1 => ∀ Z1 H1 F1, EnvR G ex Z1 H1 σ ρ1 F1 → (pur a = true → F1 = F) → Ext (quiet a) Z H (InF F) Z1 H1 (InF F1) →
      Okk (k b ρ1) (fun b ρ' => ∀ Z' H' F', EnvR G ex Z' H' σ ρ' F' → (pu2 = true → F' = F1) → Ext qu2 Z1 H1 (InF F1) Z' H' (InF F') → Q b H') (KX G ex W qu2 Z1 H1 σ F1)) (KX G ex W (quiet a) Z H σ F) := by
  refine (Okk.bind ok).imp (fun b ρ1 ok1 Z1 H1 F1 e1 u1 x1 => ok1.imp (fun b' ρ2 kk Z2 H2 F2 e2 u2 x2 => ?_) fun x ρ2 kx cls dx Z' H' F' xp => ?_) fun x ρ' kx cls dx Z' H' F' xp => kx cls dx Z' H' F' ⟨xp.env, xp.ext.wk fun q => (h2 q).1, xp.is⟩
  · exact kk Z2 H2 F2 e2 (fun q => by rw [u2 (h1 q).2, u1 (h1 q).1]) ((x1.wk fun q => (h2 q).1).trans (x2.wk fun q => (h2 q).2))
  · exact kx cls dx Z' H' F' (XPost.up (P1 := InF F1) (x1.wk fun q => (h2 q).1) (fun b hb => hb) id ⟨xp.env, xp.ext.wk fun q => (h2 q).2, xp.is⟩)
theorem Okk.mono {α : Type} {r r' : R α} {ko : α → Env → Prop} {kx : Exn → Env → Prop} (h : Okk r ko kx) (e : r = .stk ∨ r = r') : Okk r' ko kx := by
  rcases e with e | e
  · rw [e] at h; exact h.elim
  · rw [← e]; exact h
/-- what and is as a test -/
theorem evT_and (a b : E) (ρ : Env) : evT T (.and a b) ρ = .stk ∨ evT T (.and a b) ρ = (evT T a ρ).bind fun k ρ1 => if k = true then evT T b ρ1 else .ok false ρ1 := by
  show ((evE T (.and a b) ρ).bind _) = .stk ∨ ((evE T (.and a b) ρ).bind _) = ((evE T a ρ).bind _).bind _
  rw [evE]
  cases evE T a ρ with
  | stk => exact .inl rfl
  | exn x ρ1 => exact .inr rfl
  | ok d ρ1 =>
    simp only [R.bind]
    cases ht : truth d with
    | none => exact .inl rfl
    | some k =>
      cases k with
      | true =>
        show (R.bind (R.bind (evE T b ρ1) _) _) = _ ∨ (R.bind (R.bind (evE T b ρ1) _) _) = R.bind (evE T b ρ1) _
        cases evE T b ρ1 with
        | stk => exact .inl rfl
        | exn x ρ2 => exact .inr rfl
        | ok d' ρ2 =>
          simp only [R.bind]
          by_cases q : (isPlace b && !still d') = true
          · rw [if_pos q]; exact .inl rfl
          · rw [if_neg q]; exact .inr rfl
      | false =>
        by_cases q : still d = true
        · refine .inr ?_
          simp only [q, if_true, ht, R.of]
          rfl
        · refine .inl ?_
          simp only [q]
          rfl
theorem evT_or (a b : E) (ρ : Env) : evT T (.or a b) ρ = .stk ∨ evT T (.or a b) ρ = (evT T a ρ).bind fun k ρ1 => if k = true then .ok true ρ1 else evT T b ρ1 := by
  show ((evE T (.or a b) ρ).bind _) = .stk ∨ ((evE T (.or a b) ρ).bind _) = ((evE T a ρ).bind _).bind _
  rw [evE]
  cases evE T a ρ with
  | stk => exact .inl rfl
  | exn x ρ1 => exact .inr rfl
  | ok d ρ1 =>
    simp only [R.bind]
    cases ht : truth d with
    | none => exact .inl rfl
    | some k =>
      cases k with
      | false =>
        show (R.bind (R.bind (evE T b ρ1) _) _) = _ ∨ (R.bind (R.bind (evE T b ρ1) _) _) = R.bind (evE T b ρ1) _
        cases evE T b ρ1 with
        | stk => exact .inl rfl
        | exn x ρ2 => exact .inr rfl
        | ok d' ρ2 =>
          simp only [R.bind]
          by_cases q : (isPlace b && !still d') = true
          · rw [if_pos q]; exact .inl rfl
          · rw [if_neg q]; exact .inr rfl
      | true =>
        by_cases q : still d = true
        · refine .inr ?_
          simp only [q, if_true, ht, R.of]
        · refine .inl ?_
          simp only [q]
          rfl
theorem evT_not (a : E) (ρ : Env) : evT T (.not a) ρ = (evT T a ρ).bind fun k ρ1 => .ok (!k) ρ1 := by
  show ((evE T (.not a) ρ).bind _) = ((evE T a ρ).bind _).bind _
  rw [evE]
  cases evE T a ρ with
  | stk => rfl
  | exn x ρ1 => rfl
  | ok d ρ1 =>
    simp only [R.bind]
    cases ht : truth d with
    | none => rfl
    | some k => rfl
theorem tand_sound {a b : E} {x y : Expr} {rest : List Expr} {pos : Pos} (ha : PT X x (tTT G ex W T a)) (hb : PW X (.BoolOp .And (y :: rest) pos) (tTT G ex W T b)) : PW X (.BoolOp .And (x :: y :: rest) pos) (tTT G ex W T (.and a b)) := by
  refine ⟨fun wh pins s σ H Q I ⟨Z, ρ, F, env, ok⟩ => (pw_and ha hb).run wh pins s σ H Q I ?_⟩
  refine ⟨Z, ρ, F, env, (tseq (pu2 := pur b) (qu2 := quiet b) (fun q => andB q) (fun q => andB q) (ok.mono (evT_and a b ρ))).imp (fun k ρ1 h Z1 H1 F1 e1 u1 x1 => ?_) fun _ _ q => q⟩
  have ok1 := h Z1 H1 F1 e1 u1 x1
  cases k with
  | true => exact ⟨Z1, ρ1, F1, e1, ok1⟩
  | false => exact ok1 Z1 H1 F1 e1 (fun _ => rfl) Ext.refl
theorem tor_sound {a b : E} {x y : Expr} {rest : List Expr} {pos : Pos} (ha : PT X x (tTT G ex W T a)) (hb : PW X (.BoolOp .Or (y :: rest) pos) (tTT G ex W T b)) : PW X (.BoolOp .Or (x :: y :: rest) pos) (tTT G ex W T (.or a b)) := by
  refine ⟨fun wh pins s σ H Q I ⟨Z, ρ, F, env, ok⟩ => (pw_or ha hb).run wh pins s σ H Q I ?_⟩
  refine ⟨Z, ρ, F, env, (tseq (pu2 := pur b) (qu2 := quiet b) (fun q => andB q) (fun q => andB q) (ok.mono (evT_or a b ρ))).imp (fun k ρ1 h Z1 H1 F1 e1 u1 x1 => ?_) fun _ _ q => q⟩
  have ok1 := h Z1 H1 F1 e1 u1 x1
  cases k with
  | false => exact ⟨Z1, ρ1, F1, e1, ok1⟩
  | true => exact ok1 Z1 H1 F1 e1 (fun _ => rfl) Ext.refl
theorem tnot_sound {a : E} {x : Expr} {pos : Pos} (ha : PT X x (tTT G ex W T a)) : PT X (.UnaryOp .Not x pos) (tTT G ex W T (.not a)) := by
  refine PT.imp (pt_not ha) fun σ H Q ⟨Z, ρ, F, env, ok⟩ => ?_
  rw [evT_not] at ok
  exact ⟨Z, ρ, F, env, (Okk.bind ok).imp (fun k ρ1 h => h) fun _ _ q => q⟩
theorem ite_sound {cc a b : E} {x y z : Expr} {pos : Pos} (hc : PT X x (tTT G ex W T cc)) (ha : PE X y (tEE G ex W T a)) (hb : PE X z (tEE G ex W T b)) : PE X (.IfExp x y z pos) (tEE G ex W T (.ite cc a b)) := by
  refine PE.imp (pe_ifExp hc ha hb) fun σ H Q ⟨Z, ρ, F, env, ok⟩ => ?_
  have e : evE T (.ite cc a b) ρ = (evT T cc ρ).bind fun k ρ1 => if k = true then ((evE T a ρ1).bind fun d ρ2 => if (isPlace a && !still d) = true then .stk else .ok d ρ2) else ((evE T b ρ1).bind fun d ρ2 => if (isPlace b && !still d) = true then .stk else .ok d ρ2) := by
    show _ = ((evE T cc ρ).bind _).bind _
    rw [evE]
    cases evE T cc ρ with
    | stk => rfl
    | exn x ρ1 => rfl
    | ok d ρ1 =>
      simp only [R.bind]
      cases ht : truth d with
      | none => rfl
      | some k => cases k <;> rfl
  rw [e] at ok
  refine ⟨Z, ρ, F, env, (Okk.bind ok).imp (fun k ρ1 ok1 Z1 H1 F1 e1 u1 x1 => ?_) fun x ρ' kx cls dx Z' H' F' xp => kx cls dx Z' H' F' ⟨xp.env, xp.ext.wk fun q => (andB q).1, xp.is⟩⟩
  have go : ∀ (b : E) (hp : pur (.ite cc a b) = true → True), True := fun _ _ => trivial
  have fin : ∀ b : E, (pur (.ite cc a b) = pur (.ite cc a b)) → True := fun _ _ => trivial
  cases k with
  | true =>
    refine ⟨Z1, ρ1, F1, e1, unpl_at (Okk.imp (show Okk ((evE T a ρ1).bind _) _ _ from ok1) (fun d ρ2 kk v Z2 H2 F2 f2 p2 => kk v Z2 H2 F2 f2 ?_) fun x ρ2 kx cls dx Z' H' F' xp => kx cls dx Z' H' F' ?_)⟩
    · exact ⟨p2.env, p2.rep, p2.nd, p2.val, p2.plc, fun q => by rw [p2.pur (andB (andB q).2).1, u1 (andB q).1], (x1.wk fun q => (andB q).1).trans (p2.ext.wk fun q => (andB (andB q).2).1)⟩
    · exact XPost.up (P1 := InF F1) (x1.wk fun q => (andB q).1) (fun b hb => hb) id ⟨xp.env, xp.ext.wk fun q => (andB (andB q).2).1, xp.is⟩
  | false =>
    refine ⟨Z1, ρ1, F1, e1, unpl_at (Okk.imp (show Okk ((evE T b ρ1).bind _) _ _ from ok1) (fun d ρ2 kk v Z2 H2 F2 f2 p2 => kk v Z2 H2 F2 f2 ?_) fun x ρ2 kx cls dx Z' H' F' xp => kx cls dx Z' H' F' ?_)⟩
    · exact ⟨p2.env, p2.rep, p2.nd, p2.val, p2.plc, fun q => by rw [p2.pur (andB (andB q).2).2, u1 (andB q).1], (x1.wk fun q => (andB q).1).trans (p2.ext.wk fun q => (andB (andB q).2).2)⟩
    · exact XPost.up (P1 := InF F1) (x1.wk fun q => (andB q).1) (fun b hb => hb) id ⟨xp.env, xp.ext.wk fun q => (andB (andB q).2).2, xp.is⟩
/-- a value is frozen -/
theorem fz_sound {a : E} {x : Expr} (ha : PE X x (tEE G ex W T a)) : PE X x (tEE G ex W T (.fz a)) := by
  refine PE.imp ha fun σ H Q ⟨Z, ρ, F, env, ok⟩ => ?_
  rw [evE] at ok
  refine ⟨Z, ρ, F, env, (Okk.bind ok).imp (fun d ρ1 h v Z1 H1 F1 f1 p1 => ?_) fun _ _ q => q⟩
  obtain ⟨hc, kk⟩ := Okk.ite h
  have p2 := p1.unpl ((and_false_or hc).imp id not_false)
  have own := Rep.own d v f1 p2.rep
  have hown : ∀ a ∈ f1, Z1 a = none ∧ ∃ o, H1 a = some o := fun a ha => let ⟨h1, o, h2, _⟩ := own a ha; ⟨h1, o, h2⟩
  have hd : ∀ a ∈ f1, ¬ InF F1 a := p2.val rfl
  have rz : Rep G (Pd.fz Z1 H1 f1) H1 (Pd.frz d) v [] := Rep.frz d v f1 p2.rep (fz_same fun a ha => (hown a ha).1) fun a ha => fz_at ha
  refine kk v (Pd.fz Z1 H1 f1) H1 F1 [] ⟨p1.env.fz hown hd, rz, List.nodup_nil, fun _ a ha => (nomatch ha), fun _ a ha => (nomatch ha), p1.pur, p1.ext.zz.trans (fz_same fun a ha => (hown a ha).1), p1.ext.fr, fun a o e n => ?_, fun a ha => ha.elim (fun q => p1.ext.np a (.inl q)) fun q => (nomatch q)⟩
  by_cases ha : a ∈ f1
  · exact p1.ext.np a (.inr ha)
  · unfold Pd.fz at e
    rw [if_neg ha] at e
    exact p1.ext.nz a o e n
end
end Pd

set_option Elab.async false
set_option linter.all false
set_option maxRecDepth 100000
set_option maxHeartbeats 2000000
/-! PdI: what is pure leaves the slots; chains; displays; arguments. -/
namespace Pd
open PySem PySem.Spec PyProof.Rows L2
/-- the slots are left as they are -/
def Sm {α : Type} (r : R α) (ρ : Env) : Prop := ∀ a ρ', r = .ok a ρ' → ρ' = ρ
theorem Sm.bind {α β : Type} {r : R α} {f : α → Env → R β} {ρ : Env} (h : Sm r ρ) (k : ∀ a, Sm (f a ρ) ρ) : Sm (r.bind f) ρ := by
  cases r with
  | ok a ρ1 => cases h a ρ1 rfl; exact k a
  | exn x ρ1 => intro a ρ' e; cases e
  | stk => intro a ρ' e; cases e
theorem Sm.ok {α : Type} {a : α} {ρ : Env} : Sm (R.ok a ρ) ρ := by intro _ _ e; cases e; rfl
theorem Sm.stk {α : Type} {ρ : Env} : Sm (R.stk : R α) ρ := by intro _ _ e; cases e
theorem Sm.exn {α : Type} {x : Exn} {ρ ρ1 : Env} : Sm (R.exn x ρ1 : R α) ρ := by intro _ _ e; cases e
theorem Sm.of {α : Type} {o : Option α} {ρ : Env} : Sm (R.of o ρ) ρ := by cases o <;> (intro _ _ e; cases e) <;> rfl
theorem Sm.ite {α : Type} {c : Prop} [Decidable c] {r r' : R α} {ρ : Env} (h : Sm r ρ) (k : Sm r' ρ) : Sm (if c then r else r') ρ := by
  by_cases q : c
  · rw [if_pos q]; exact h
  · rw [if_neg q]; exact k
mutual
theorem pur_env (T : Tab) : ∀ (e : E) (ρ : Env), pur e = true → Sm (evE T e ρ) ρ
  | .var i, ρ, _ => by
    rw [evE]
    split
    · exact Sm.ok
    · exact Sm.stk
  | .non, ρ, _ => by rw [evE]; exact Sm.ok
  | .bl _, ρ, _ => by rw [evE]; exact Sm.ok
  | .int _, ρ, _ => by rw [evE]; exact Sm.ok
  | .str _, ρ, _ => by rw [evE]; exact Sm.ok
  | .glob _, ρ, _ => by rw [evE]; exact Sm.of
  | .fld a f, ρ, h => by
    rw [evE]
    refine (pur_env T a ρ h).bind fun d => ?_
    split
    · exact Sm.ite Sm.of Sm.stk
    · exact Sm.ite Sm.of Sm.stk
    · exact Sm.stk
  | .ix a i, ρ, h => by
    rw [evE]
    exact (pur_env T a ρ (andB h).1).bind fun d => Sm.ite Sm.stk ((pur_env T i ρ (andB h).2).bind fun k => Sm.of)
  | .fz a, ρ, h => by
    rw [evE]
    exact (pur_env T a ρ h).bind fun d => Sm.ite Sm.stk Sm.ok
  | .bor a, ρ, h => by rw [evE]; exact Sm.stk
  | .op o es, ρ, h => by
    rw [evE]
    exact (purs_env T _ es ρ h).bind fun _ => Sm.of
  | .chain o o' es, ρ, h => by
    rw [evE]
    refine (purs_env T _ es ρ h).bind fun ds => ?_
    split
    · split
      · exact Sm.ok
      · exact Sm.stk
    · exact Sm.stk
  | .and a b, ρ, h => by
    rw [evE]
    refine (pur_env T a ρ (andB h).1).bind fun d => ?_
    split
    · exact (pur_env T b ρ (andB h).2).bind fun d => Sm.ite Sm.stk Sm.ok
    · exact Sm.ite Sm.ok Sm.stk
    · exact Sm.stk
  | .or a b, ρ, h => by
    rw [evE]
    refine (pur_env T a ρ (andB h).1).bind fun d => ?_
    split
    · exact (pur_env T b ρ (andB h).2).bind fun d => Sm.ite Sm.stk Sm.ok
    · exact Sm.ite Sm.ok Sm.stk
    · exact Sm.stk
  | .not a, ρ, h => by
    rw [evE]
    exact (pur_env T a ρ h).bind fun _ => Sm.of
  | .ite c a b, ρ, h => by
    rw [evE]
    refine (pur_env T c ρ (andB h).1).bind fun d => ?_
    split
    · exact (pur_env T a ρ (andB (andB h).2).1).bind fun d => Sm.ite Sm.stk Sm.ok
    · exact (pur_env T b ρ (andB (andB h).2).2).bind fun d => Sm.ite Sm.stk Sm.ok
    · exact Sm.stk
  | .tup es, ρ, h => by
    rw [evE]
    exact (pursC_env T es ρ h).bind fun _ => Sm.ite Sm.ok Sm.stk
  | .lst es, ρ, h => by
    rw [evE]
    exact (pursC_env T es ρ h).bind fun _ => Sm.ite Sm.ok Sm.stk
  | .dict t es, ρ, h => by
    rw [evE]
    refine (pursC_env T es ρ h).bind fun ds => ?_
    split
    · exact Sm.ok
    · exact Sm.ite Sm.ok Sm.stk
    · exact Sm.stk
  | .call k j es, ρ, h => by
    rw [evE]
    split
    · exact Sm.stk
    · refine Sm.ite Sm.stk ((pursA_env T _ es ρ h).bind fun ds => Sm.ite Sm.stk ?_)
      split
      · exact Sm.ite Sm.stk Sm.ok
      · split
        · exact Sm.stk
        · exact Sm.exn
      · exact Sm.stk
  | .make j es, ρ, h => by
    rw [evE]
    split
    · exact Sm.stk
    · refine Sm.ite (Sm.ite Sm.stk ((pursA_env T _ es ρ h).bind fun ds => ?_)) Sm.stk
      split
      · exact Sm.ok
      · exact Sm.stk
      · exact Sm.exn
      · exact Sm.stk
  | .isx c, ρ, _ => by
    rw [evE]
    split
    · exact Sm.ok
    · exact Sm.stk
  | .xfld, ρ, _ => by
    rw [evE]
    split
    · exact Sm.ok
    · exact Sm.stk
  | .frz _, _, h => (nomatch h) | .mov _, _, h => (nomatch h) | .mcall _ _ _ _ _, _, h => (nomatch h) | .comp _ _ _ _ _ _, _, h => (nomatch h) | .comp2 _ _ _ _ _ _ _ _, _, h => (nomatch h) | .pop _, _, h => (nomatch h)
theorem purs_env (T : Tab) (k : D → Bool) : ∀ (es : List E) (ρ : Env), purs es = true → Sm (evEs T k es ρ) ρ
  | [], ρ, _ => by rw [evEs]; exact Sm.ok
  | e :: es, ρ, h => by
    rw [evEs]
    exact (pur_env T e ρ (andB h).1).bind fun d => Sm.ite Sm.stk ((purs_env T anyD es ρ (andB h).2).bind fun _ => Sm.ok)
theorem pursC_env (T : Tab) : ∀ (es : List E) (ρ : Env), purs es = true → Sm (evCs T es ρ) ρ
  | [], ρ, _ => by rw [evCs]; exact Sm.ok
  | e :: es, ρ, h => by
    rw [evCs]
    exact (pur_env T e ρ (andB h).1).bind fun d => Sm.ite Sm.stk ((pursC_env T es ρ (andB h).2).bind fun _ => Sm.ok)
theorem pursA_env (T : Tab) (k : D → Bool) : ∀ (es : List E) (ρ : Env), purs es = true → Sm (evAs T k es ρ) ρ
  | [], ρ, _ => by rw [evAs]; exact Sm.ok
  | e :: es, ρ, h => by
    have h1 := (andB h).1
    have ih := pursA_env T anyD es ρ (andB h).2
    cases e with
    | bor a =>
      rw [evAs]
      exact (pur_env T a ρ h1).bind fun d => Sm.ite Sm.stk (ih.bind fun _ => Sm.ok)
    | _ =>
      rw [evAs]
      · exact (pur_env T _ ρ h1).bind fun d => Sm.ite Sm.stk (ih.bind fun _ => Sm.ok)
      · intro _ e; cases e
end
section
variable {G : Gx} {c : Ck} {lv : Nat} {ex : Option (Nat × V)} {W : WX} {X : Cx} {T : Tab}
/-! ### a < b < c -/
def cmpOf : Op → Option CmpOp
  | .lt => some .Lt | .le => some .LtE | .gt => some .Gt | .ge => some .GtE | .eq => some .Eq | .ne => some .NotEq
  | _ => none
theorem cmp_rule (hX : XOk G c lv ex W X) {o : Op} {op : CmpOp} (h : cmpOf o = some op) : OpR X (compareOp op) (fun x y H Q => rD G o [x, y] H Q) := by
  have hu := hX.un
  have hK := hX.K
  cases o with
  | lt => cases h; exact or_lt
  | le => cases h; exact or_le
  | gt => cases h; exact or_gt
  | ge => cases h; exact or_ge
  | eq => cases h; exact or_eq hK (by omega)
  | ne => cases h; exact or_ne hK (by omega)
  | _ => cases h
/-- fresh things besides -/
theorem EPost.frr {pu qu pl : Bool} {Z H Z1 H1 Z2 H2 : Hp} {σ : L2.St} {F F1 : Fp} {d d' : D} {ρ1 : Env} {v v' : V} {f : List Addr} (p : EPost G ex pu qu pl Z H σ F d ρ1 v Z1 H1 F1 f) (x : Fr Z1 H1 Z2 H2) (r : Rep G Z2 H2 d' v' []) : EPost G ex pu qu pl Z H σ F d' ρ1 v' Z2 H2 F1 [] :=
  ⟨p.env.fr x, r, List.nodup_nil, fun _ a ha => (nomatch ha), fun _ a ha => (nomatch ha), p.pur, (p.ext.imp fun a ha => .inl ha).trans (x.ext fun a ha => ha.elim .inl fun q => (nomatch q))⟩
theorem chain_core {o o' : Op} {a b e : E} (hs : safe e = true) (hp : pur e = true) {σ : L2.St} {H : Hp} {Q : VK} (h : tEE G ex W T (.chain o o' [a, b, e]) σ H Q) :
    tChain (fun x y H Q => rD G o [x, y] H Q) (fun x y H Q => rD G o' [x, y] H Q) (tEE G ex W T a) (tEE G ex W T b) (tEE G ex W T e) σ H Q := by
  obtain ⟨Z, ρ, F, env, ok⟩ := h
  rw [evE] at ok
  have e1 : evEs T anyD [a, b, e] ρ = (evE T a ρ).bind fun d ρ1 => if (!anyD d || (!still d && !purs [b, e])) = true then .stk else (evEs T anyD [b, e] ρ1).bind fun ds ρ2 => .ok (d :: ds) ρ2 := by rw [evEs]
  rw [e1] at ok
  refine ⟨Z, ρ, F, env, (Okk.bind (Okk.bind ok)).imp (fun d1 ρ1 ok1 v Z1 H1 F1 f1 p1 => ?_) fun x ρ' kx cls dx Z' H' F' xp => kx cls dx Z' H' F' ⟨xp.env, xp.ext.wk fun q => (andB q).1, xp.is⟩⟩
  obtain ⟨hc1, ok1⟩ := Okk.ite ok1
  have hs1 : still d1 = true ∨ purs [b, e] = true := (and_false_or (bor_false hc1).2).imp not_false not_false
  have e2 : evEs T anyD [b, e] ρ1 = (evE T b ρ1).bind fun d ρ1 => if (!anyD d || (!still d && !purs [e])) = true then .stk else (evEs T anyD [e] ρ1).bind fun ds ρ2 => .ok (d :: ds) ρ2 := by rw [evEs]
  rw [e2] at ok1
  refine ⟨Z1, ρ1, F1, p1.env, (Okk.bind (Okk.bind ok1)).imp (fun d2 ρ2 ok2 w Z2 H2 F2 f2 p2 => ?_) fun x ρ' kx cls dx Z' H' F' xp => kx cls dx Z' H' F' (XPost.up (p1.ext.wk fun q => (andB q).1) (fun b hb => .inl hb) id ⟨xp.env, xp.ext.wk fun q => (andB (andB q).2).1, xp.is⟩)⟩
  obtain ⟨hc2, ok2⟩ := Okk.ite ok2
  have e3 : evEs T anyD [e] ρ2 = (evE T e ρ2).bind fun d ρ1 => if (!anyD d || (!still d && !purs [])) = true then .stk else (evEs T anyD [] ρ1).bind fun ds ρ2 => .ok (d :: ds) ρ2 := by rw [evEs]
  rw [e3] at ok2
  obtain ⟨d3, ρ3, e4, ok3⟩ := (safe_nox T e ρ2 hs).get (Okk.bind (Okk.bind ok2))
  have e5 := pur_env T e ρ2 hp d3 ρ3 e4
  subst e5
  obtain ⟨_, ok3⟩ := Okk.ite ok3
  rw [evEs] at ok3
  have ok4 : Okk (match ([d1, d2, d3] : List D) with
    | [x, y, z] => (match opD o [x, y], opD o' [y, z] with
      | some (.bl p), some (.bl q) => R.ok (.bl (p && q)) ρ3
      | _, _ => .stk)
    | _ => .stk) (KO G ex (pur (.chain o o' [a, b, e])) (quiet (.chain o o' [a, b, e])) (isPlace (.chain o o' [a, b, e])) Z H σ F Q) (KX G ex W (quiet (.chain o o' [a, b, e])) Z H σ F) := ok3
  replace ok4 : Okk (match opD o [d1, d2], opD o' [d2, d3] with
      | some (.bl p), some (.bl q) => R.ok (.bl (p && q)) ρ3
      | _, _ => .stk) (KO G ex (pur (.chain o o' [a, b, e])) (quiet (.chain o o' [a, b, e])) (isPlace (.chain o o' [a, b, e])) Z H σ F Q) (KX G ex W (quiet (.chain o o' [a, b, e])) Z H σ F) := ok4
  split at ok4
  · rename_i p q h1 h2
    have hs1' : still d1 = true ∨ pur b = true := hs1.imp id fun h => (andB h).1
    have p12 := p1.stay (a := a) p2 hs1'
    have p2' : EPost G ex (pur a && pur b) (quiet a && quiet b) (isPlace b) Z H σ F d2 ρ3 w Z2 H2 F2 f2 := p1.seq p2 (fun q => andB q) fun q => andB q
    refine ⟨Z2, [d1, d2], f1 ++ f2, .bl p, p12.env.sub, ⟨v, [w], f1, f2, rfl, p12.rep, ⟨w, [], f2, [], rfl, p2'.rep, ⟨rfl, rfl⟩, by simp⟩, rfl⟩, h1, fun v' Z3 H3 f3 fr r3 _ _ => ?_⟩
    obtain ⟨rfl, rfl⟩ := r3
    refine ⟨p, rfl, ?_⟩
    have fin : ∀ (k : Bool) (Z' H' : Hp) (v' : V) (qu2 : Bool) (F' : Fp), EPost G ex (pur a && pur b) (quiet a && quiet b) true Z H σ F (.bl k) ρ3 v' Z' H' F' [] → EPost G ex (pur (.chain o o' [a, b, e])) (quiet (.chain o o' [a, b, e])) (isPlace (.chain o o' [a, b, e])) Z H σ F (.bl k) ρ3 v' Z' H' F' [] := by
      intro k Z' H' v' qu2 F' p
      exact ⟨p.env, p.rep, p.nd, fun _ a ha => (nomatch ha), fun _ a ha => (nomatch ha), fun q => p.pur (Bool.and_eq_true_iff.mpr ⟨(andB q).1, (andB (andB q).2).1⟩), p.ext.wk fun q => Bool.and_eq_true_iff.mpr ⟨(andB q).1, (andB (andB q).2).1⟩⟩
    cases p with
    | false =>
      refine ok4 (.bl false) Z3 H3 F2 [] (fin _ _ _ _ true _ ?_)
      have := p2'.frr (d' := .bl false) (v' := .bl false) fr ⟨rfl, rfl⟩
      exact ⟨this.env, this.rep, this.nd, fun _ a ha => (nomatch ha), fun _ a ha => (nomatch ha), this.pur, this.ext⟩
    | true =>
      refine ⟨Z3, ρ3, F2, p2'.env.fr fr, ?_⟩
      rw [e4]
      intro u Z4 H4 F4 f4 p4
      have hs2 : still d2 = true ∨ pur e = true := .inr hp
      have pw : EPost G ex (pur a && pur b) (quiet a && quiet b) (isPlace b) Z H σ F d2 ρ3 w Z3 H3 F2 f2 := ⟨p2'.env.fr fr, p2'.rep.fr fr, p2'.nd, p2'.val, p2'.plc, p2'.pur, p2'.ext.trans (fr.ext fun a ha => .inl ha)⟩
      have p24 := pw.stay (a := b) p4 hs2
      refine ⟨Z4, [d2, d3], f2 ++ f4, .bl q, p24.env.sub, ⟨w, [u], f2, f4, rfl, p24.rep, ⟨u, [], f4, [], rfl, p4.rep, ⟨rfl, rfl⟩, by simp⟩, rfl⟩, h2, fun v' Z5 H5 f5 fr5 r5 _ _ => ?_⟩
      obtain ⟨rfl, rfl⟩ := r5
      have p5 := p24.frr (d' := .bl q) (v' := .bl q) fr5 ⟨rfl, rfl⟩
      exact ok4 (.bl q) Z5 H5 F4 [] ⟨p5.env, p5.rep, p5.nd, fun _ a ha => (nomatch ha), fun _ a ha => (nomatch ha), fun q => p5.pur (by obtain ⟨k1, k2⟩ := andB q; obtain ⟨k3, k4⟩ := andB k2; rw [k1, k3, (andB k4).1]; rfl),
        p5.ext.wk fun q => (by obtain ⟨k1, k2⟩ := andB q; obtain ⟨k3, k4⟩ := andB k2; rw [k1, k3, (andB k4).1]; rfl)⟩
  · exact ok4.elim
theorem chain_sound (hX : XOk G c lv ex W X) {o o' : Op} {op op' : CmpOp} {a b e : E} {x y z : Expr} {pos : Pos} (ho : cmpOf o = some op) (ho' : cmpOf o' = some op') (hs : safe e = true) (hp : pur e = true)
    (ha : PE X x (tEE G ex W T a)) (hb : PE X y (tEE G ex W T b)) (he : PE X z (tEE G ex W T e)) (hm : lastMarks [op, op'] [y, z] = false) : PE X (.Compare x [op, op'] [y, z] pos) (tEE G ex W T (.chain o o' [a, b, e])) :=
  PE.imp (pe_chain (cmp_rule hX ho) (cmp_rule hX ho') ha hb he hm) fun σ H Q h => chain_core hs hp h
theorem chain_bl {o o' : Op} {es : List E} {σ : L2.St} {H : Hp} {Q : Bool → Hp → Prop} (h : tEE G ex W T (.chain o o' es) σ H fun x H' => ∃ k, TruV G.K x H' k ∧ Q k H') : tEE G ex W T (.chain o o' es) σ H fun x H' => ∃ k, x = .bl k ∧ Q k H' := by
  obtain ⟨Z, ρ, F, env, ok⟩ := h
  refine ⟨Z, ρ, F, env, ?_⟩
  have inv : ∀ d ρ', evE T (.chain o o' es) ρ = .ok d ρ' → ∃ b, d = D.bl b := by
    intro d ρ' q
    rw [evE] at q
    cases e : evEs T anyD es ρ with
    | ok ds ρ1 =>
      rw [e] at q
      rcases ds with _ | ⟨a, _ | ⟨b, _ | ⟨c, _ | ⟨_, _⟩⟩⟩⟩
      · cases q
      · cases q
      · cases q
      · replace q : (match opD o [a, b], opD o' [b, c] with
          | some (D.bl p), some (D.bl q) => R.ok (D.bl (p && q)) ρ1
          | _, _ => .stk) = .ok d ρ' := q
        split at q
        · cases q; exact ⟨_, rfl⟩
        · cases q
      · cases q
    | exn _ _ => rw [e] at q; cases q
    | stk => rw [e] at q; cases q
  cases e : evE T (.chain o o' es) ρ with
  | ok d ρ' =>
    obtain ⟨b, rfl⟩ := inv d ρ' e
    rw [e] at ok
    intro v Z' H' F' f p
    obtain ⟨k', h1, h2⟩ := ok v Z' H' F' f p
    have hv := p.rep.1
    subst hv
    have h1 : k' = b := h1
    exact ⟨b, rfl, h1 ▸ h2⟩
  | exn _ _ => rw [e] at ok; exact ok
  | stk => rw [e] at ok; exact ok.elim
theorem tchain_sound (hX : XOk G c lv ex W X) {o o' : Op} {op op' : CmpOp} {a b e : E} {x y z : Expr} {pos : Pos} (ho : cmpOf o = some op) (ho' : cmpOf o' = some op') (hs : safe e = true) (hp : pur e = true)
    (ha : PE X x (tEE G ex W T a)) (hb : PE X y (tEE G ex W T b)) (he : PE X z (tEE G ex W T e)) (hm : lastMarks [op, op'] [y, z] = false) : PT X (.Compare x [op, op'] [y, z] pos) (tTT G ex W T (.chain o o' [a, b, e])) :=
  PT.imp (pt_chain (cmp_rule hX ho) (cmp_rule hX ho') ha hb he hm) fun σ H Q h => chain_core hs hp (chain_bl (test_val h))
/-! ### displays -/
structure CPost (G : Gx) (ex : Option (Nat × V)) (pu qu : Bool) (Z H : Hp) (σ : L2.St) (F : Fp) (ds : List D) (ρ' : Env) (vs : List V) (Z' H' : Hp) (F' : Fp) (fp : List Addr) : Prop where
  env : EnvR G ex Z' H' σ ρ' F'
  reps : Reps G Z' H' ds vs fp
  nd : fp.Nodup
  val : ∀ a ∈ fp, ¬ InF F' a
  pur : pu = true → F' = F
  ext : Ext qu Z H (InF F) Z' H' (fun a => InF F' a ∨ a ∈ fp)
abbrev KC (G : Gx) (ex : Option (Nat × V)) (pu qu : Bool) (Z H : Hp) (σ : L2.St) (F : Fp) (Q : List V → Hp → Prop) : List D → Env → Prop := fun ds ρ' => ∀ vs Z' H' F' fp, CPost G ex pu qu Z H σ F ds ρ' vs Z' H' F' fp → Q vs H'
def tCs (G : Gx) (ex : Option (Nat × V)) (W : WX) (pu qu : Bool) (ev : Env → R (List D)) : TA := fun σ H Q => ∃ Z ρ F, EnvR G ex Z H σ ρ F ∧ Okk (ev ρ) (KC G ex pu qu Z H σ F Q) (KX G ex W qu Z H σ F)
theorem reps_own {Z H : Hp} {ds : List D} {vs : List V} {fp : List Addr} (r : Reps G Z H ds vs fp) {a : Addr} (h : a ∈ fp) : ∃ o, H a = some o := let ⟨_, o, h1, _⟩ := Reps.own ds vs fp r a h; ⟨o, h1⟩
theorem rep_own {Z H : Hp} {d : D} {v : V} {f : List Addr} (r : Rep G Z H d v f) {a : Addr} (h : a ∈ f) : Z a = none ∧ ∃ o, H a = some o := let ⟨z, o, h1, _⟩ := Rep.own d v f r a h; ⟨z, o, h1⟩
/-- what is held by nobody's slot stays through a step -/
theorem Ext.keep {q : Bool} {Z H Z' H' : Hp} {P P' : Addr → Prop} (x : Ext q Z H P Z' H' P') {a : Addr} {o : HO} (z : Z a = none) (h : H a = some o) (np : ¬ P a) : H' a = some o ∧ Z' a = none ∧ ¬ P' a := by
  refine ⟨x.fr a o h (.inr np), ?_, fun q => ?_⟩
  · cases e : Z' a with
    | none => rfl
    | some u =>
      rcases x.nz a u e z with r | r
      · exact (np r).elim
      · rw [h] at r; cases r
  · rcases x.np a q with r | r
    · exact np r
    · rw [h] at r; cases r
theorem Rep.kept {q : Bool} {Z H Z' H' : Hp} {P P' : Addr → Prop} (x : Ext q Z H P Z' H' P') {d : D} {v : V} {f : List Addr} (r : Rep G Z H d v f) (np : ∀ a ∈ f, ¬ P a) : Rep G Z' H' d v f :=
  Rep.mono x.zz d v f (fun a ha => by
    obtain ⟨z, o, h⟩ := rep_own r ha
    obtain ⟨h1, h2, _⟩ := x.keep z h (np a ha)
    exact ⟨fun u e => by rw [h] at e; cases e; exact h1, h2⟩) r
theorem evCs_cons {e : E} {es : List E} {σ : L2.St} {Z H : Hp} {ρ : Env} {F : Fp} {Q : List V → Hp → Prop} (ok : Okk (evCs T (e :: es) ρ) (KC G ex (purs (e :: es)) (quiets (e :: es)) Z H σ F Q) (KX G ex W (quiets (e :: es)) Z H σ F)) :
    Okk (evE T e ρ) (fun d ρ1 => ∀ v Z1 H1 F1 f1, EPost G ex (pur e) (quiet e) (isPlace e) Z H σ F d ρ1 v Z1 H1 F1 f1 → Okk (evCs T es ρ1) (KC G ex (purs es) (quiets es) Z1 H1 σ F1 fun vs H' => Q (v :: vs) H') (KX G ex W (quiets es) Z1 H1 σ F1)) (KX G ex W (quiet e) Z H σ F) := by
  rw [evCs] at ok
  refine (Okk.bind ok).imp (fun d ρ1 ok1 v Z1 H1 F1 f1 p1 => ?_) fun x ρ' kx cls dx Z' H' F' xp => kx cls dx Z' H' F' ⟨xp.env, xp.ext.wk fun q => (andB q).1, xp.is⟩
  obtain ⟨hc, ok2⟩ := Okk.ite ok1
  have pv := p1.unpl ((and_false_or hc).imp id not_false)
  refine (Okk.bind ok2).imp (fun ds ρ2 ok3 vs Z2 H2 F2 fp p2 => ?_) fun x ρ' kx cls dx Z' H' F' xp => kx cls dx Z' H' F' (XPost.up (p1.ext.wk fun q => (andB q).1) (fun b hb => .inl hb) id ⟨xp.env, xp.ext.wk fun q => (andB q).2, xp.is⟩)
  have out : ∀ a ∈ f1, ¬ (InF F2 a ∨ a ∈ fp) := fun a ha => by
    obtain ⟨z, o, h⟩ := rep_own pv.rep ha
    exact (p2.ext.keep z h (pv.val rfl a ha)).2.2
  refine ok3 (v :: vs) Z2 H2 F2 (f1 ++ fp) ⟨p2.env, ⟨v, vs, f1, fp, rfl, pv.rep.kept p2.ext (pv.val rfl), p2.reps, rfl⟩, ?_, fun a ha => ?_, fun q => by rw [p2.pur (andB q).2, p1.pur (andB q).1], ?_⟩
  · refine List.nodup_append.mpr ⟨pv.nd, p2.nd, fun a ha b hb e => ?_⟩
    subst e
    exact out a ha (.inr hb)
  · rcases List.mem_append.mp ha with ha | ha
    · exact fun q => out a ha (.inl q)
    · exact p2.val a ha
  · have x1 : Ext (quiets (e :: es)) Z H (InF F) Z1 H1 (fun a => InF F1 a ∨ a ∈ f1) := p1.ext.wk fun q => (andB q).1
    have x2 : Ext (quiets (e :: es)) Z1 H1 (fun a => InF F1 a ∨ a ∈ f1) Z2 H2 (fun a => InF F2 a ∨ a ∈ f1 ++ fp) := by
      have x := p2.ext
      refine ⟨x.zz, fun a o h hq => x.fr a o h (hq.imp (fun q => (andB q).2) fun q r => q (.inl r)), fun a o h n => (x.nz a o h n).imp .inl id, fun a ha => ?_⟩
      rcases ha with ha | ha
      · exact (x.np a (.inl ha)).imp .inl id
      · rcases List.mem_append.mp ha with ha | ha
        · exact .inl (.inr ha)
        · exact (x.np a (.inr ha)).imp .inl id
    exact x1.trans x2
theorem AllE.cs {es : List E} {xs : List Expr} (h : AllE G ex W T X es xs) : PA X xs (tCs G ex W (purs es) (quiets es) (evCs T es)) := by
  induction h with
  | nil =>
    refine PA.imp pa_nil fun σ H Q ⟨Z, ρ, F, env, ok⟩ => ?_
    rw [evCs] at ok
    exact ok [] Z H F [] ⟨env, ⟨rfl, rfl⟩, List.nodup_nil, fun _ q => (nomatch q), fun _ => rfl, Ext.refl.imp fun a q => q.elim id fun q => (nomatch q)⟩
  | cons h p r ih => exact PA.imp (pa_cons h ih (star_eq p _ _)) fun σ H Q ⟨Z, ρ, F, env, ok⟩ => ⟨Z, ρ, F, env, (evCs_cons ok).imp (fun d ρ1 q v Z1 H1 F1 f1 p1 => ⟨Z1, ρ1, F1, p1.env, q v Z1 H1 F1 f1 p1⟩) fun _ _ q => q⟩
theorem tup_sound {es : List E} {xs : List Expr} {k : Nat} {pos : Pos} (h : AllE G ex W T X es xs) : PE X (.Tuple xs k pos) (tEE G ex W T (.tup es)) := by
  refine PE.imp (pe_tup h.cs) fun σ H Q ⟨Z, ρ, F, env, ok⟩ => ?_
  rw [evE] at ok
  refine ⟨Z, ρ, F, env, (Okk.bind ok).imp (fun ds ρ1 ok1 vs Z1 H1 F1 fp p1 => ?_) fun _ _ q => q⟩
  obtain ⟨hl, kk⟩ := Okk.ite2 ok1
  have hl' : ds.length ≤ 16777216 := of_decide_eq_true hl
  refine ⟨by rw [reps_len p1.reps]; exact hl', fun p hp => ?_⟩
  obtain ⟨fr, r⟩ := new_tup p1.env.sub p1.reps hp
  exact kk (.ref p) _ _ F1 fp ⟨p1.env.fr fr, r, p1.nd, fun _ => p1.val, fun q => (nomatch q), p1.pur, p1.ext.trans (fr.ext fun a ha => .inl ha)⟩
theorem new_mls {Z H : Hp} {ds : List D} {vs : List V} {f : List Addr} {p : Addr} (s : Sub Z H) (r : Reps G Z H ds vs f) (hp : H p = none) : Fr Z H Z (upd H p (.lst vs)) ∧ Rep G Z (upd H p (.lst vs)) (.mls ds) (.ref p) (p :: f) := by
  have fr : Fr Z H Z (upd H p (.lst vs)) := Fr.own s hp
  exact ⟨fr, p, vs, f, rfl, by rw [upd_same], sub_none s hp, r.fr fr, rfl⟩
theorem lst_sound {es : List E} {xs : List Expr} {pos : Pos} (h : AllE G ex W T X es xs) : PE X (.List xs pos) (tEE G ex W T (.lst es)) := by
  refine PE.imp (pe_lst h.cs) fun σ H Q ⟨Z, ρ, F, env, ok⟩ => ?_
  rw [evE] at ok
  refine ⟨Z, ρ, F, env, (Okk.bind ok).imp (fun ds ρ1 ok1 vs Z1 H1 F1 fp p1 => ?_) fun _ _ q => q⟩
  obtain ⟨hl, kk⟩ := Okk.ite2 ok1
  have hl' : ds.length ≤ 16777216 := of_decide_eq_true hl
  refine ⟨by rw [reps_len p1.reps]; exact hl', fun p hp => ?_⟩
  obtain ⟨fr, r⟩ := new_mls p1.env.sub p1.reps hp
  have hpf : p ∉ fp := fun q => by obtain ⟨o, e⟩ := reps_own p1.reps q; rw [hp] at e; cases e
  refine kk (.ref p) _ _ F1 (p :: fp) ⟨p1.env.fr fr, r, List.nodup_cons.mpr ⟨hpf, p1.nd⟩, fun _ a ha q => ?_, fun q => (nomatch q), p1.pur, p1.ext.trans (fr.ext fun a ha => ?_)⟩
  · rcases List.mem_cons.mp ha with rfl | ha
    · obtain ⟨_, o, e, _⟩ := p1.env.owned q
      rw [hp] at e; cases e
    · exact p1.val a ha q
  · rcases ha with ha | ha
    · exact .inl (.inl ha)
    · rcases List.mem_cons.mp ha with rfl | ha
      · exact .inr hp
      · exact .inl (.inr ha)
theorem dict0_sound {t : Bool} {pos : Pos} : PE X (.Dict [] [] pos) (tEE G ex W T (.dict t [])) := by
  have fin : ∀ σ H Q, tEE G ex W T (.dict t []) σ H Q → ∀ p, H p = none → Q (.ref p) (upd H p (if t = true then .dT [] else .dK [])) := by
    intro σ H Q ⟨Z, ρ, F, env, ok⟩ p hp
    rw [evE, evCs] at ok
    have fr : Fr Z H Z (upd H p (if t = true then .dT [] else .dK [])) := Fr.own env.sub hp
    refine ok (.ref p) _ _ F [p] ⟨env.fr fr, ⟨p, [], _, rfl, by rw [upd_same], sub_none env.sub hp, ?_, ⟨rfl, rfl⟩, rfl⟩, nodup1, fun _ a ha q => ?_, fun q => (nomatch q), fun _ => rfl, fr.ext fun a ha => ha.imp id fun ha => by cases ha with | head => exact hp | tail _ h => cases h⟩
    · cases t <;> exact ⟨[], rfl, rfl, rfl⟩
    · obtain ⟨_, o, e, _⟩ := env.owned q
      cases ha with
      | head => rw [hp] at e; cases e
      | tail _ h => cases h
  cases t with
  | false => exact PE.imp pe_dnewK fun σ H Q h => fin σ H Q h
  | true => exact PE.imp pe_dnewT fun σ H Q h => fin σ H Q h
end
end Pd

set_option Elab.async false
set_option linter.all false
set_option maxRecDepth 100000
set_option maxHeartbeats 2000000
/-! PdJ: arguments, calls, methods, properties, new instances. -/
namespace Pd
open PySem PySem.Spec PyProof.Rows L2
/-- what a def promises: its table row -/
def spD (G : Gx) (f : Fd) : Sp := fun vs H Q E => ∃ Z ds F, EnvR G none Z H (vs.map some) (ds.map some) F ∧ (∀ i a, a ∈ F i → f.mu = [i]) ∧
  match f.F ds with
  | .ok d ms => (match f.mu, ms with
    | [], _ => ∀ v Z' H' fr, Sub Z' H' → Ext true Z H (fun _ => False) Z' H' (· ∈ fr) → Rep G Z' H' d v fr → fr.Nodup → Q v H'
    | [i], [m] => ∀ v w Z' H' fr g, vs[i]? = some w → Sub Z' H' → Ext false Z H (InF F) Z' H' (fun a => a ∈ fr ∨ a ∈ g) → Rep G Z' H' d v fr → Rep G Z' H' m w g → (fr ++ g).Nodup → Q v H'
    | _, _ => False)
  | .exn x => ∀ cls dx Z' H', Sub Z' H' → Ext f.mu.isEmpty Z H (InF F) Z' H' (fun _ => False) → ExnIs G x cls dx H' → E cls dx H'
  | .stk => False
def FdOk (G : Gx) (lv : Nat) : FnI → Fd → Prop
  | .fn x, f => ∃ a fd ps k, G.mg x = some (.ref a) ∧ PySem.W.keepIn G.K (.ref a) = true ∧ FnOk G.P G.w G.K G.mg G.base (L2.CX G.P G.w) k a fd ps (spD G f) ∧ Binds G.K fd ps [] ∧ k + 1 ≤ lv
  | .meth c m, f => ∃ a fd ps k, (Cls G.K (G.cad c) ∧ Meth G.K (G.cad c) m a) ∧ FnOk G.P G.w G.K G.mg G.base (L2.CX G.P G.w) k a fd ps (spD G f) ∧ Binds G.K fd ps [] ∧ k + 1 ≤ lv
  | .prop c m, f => ∃ p a fd ps k, (Cls G.K (G.cad c) ∧ PropOf G.K (G.cad c) m p a) ∧ FnOk G.P G.w G.K G.mg G.base (L2.CX G.P G.w) k a fd ps (spD G f) ∧ Binds G.K fd ps [] ∧ k + 1 ≤ lv
def MkOk (G : Gx) (lv : Nat) (cx : Nat × Str) (cf : Nat × Fd) : Prop := cx.1 = cf.1 ∧ ∃ a fd ps k, G.mg cx.2 = some (.ref (G.cad cx.1)) ∧ Mk G.K (G.cad cx.1) a ∧ FnOk G.P G.w G.K G.mg G.base (L2.CX G.P G.w) k a fd ps (spD G cf.2) ∧ Binds G.K fd ps [] ∧ k + 1 ≤ lv
def isBor : E → Bool
  | .bor _ => true
  | _ => false
def strip : E → E
  | .bor a => a
  | e => e
section
variable {G : Gx} {c : Ck} {lv : Nat} {ex : Option (Nat × V)} {W : WX} {X : Cx} {T : Tab}
inductive AllA (G : Gx) (ex : Option (Nat × V)) (W : WX) (T : Tab) (X : Cx) : List E → List Expr → Prop
  | nil : AllA G ex W T X [] []
  | cons {e : E} {es : List E} {x : Expr} {xs : List Expr} (h : PE X x (tEE G ex W T (strip e))) (hb : isBor e = true → isPlace (strip e) = true) (p : plainX x = true) (r : AllA G ex W T X es xs) : AllA G ex W T X (e :: es) (x :: xs)
structure APost (G : Gx) (ex : Option (Nat × V)) (es : List E) (Z H : Hp) (σ : L2.St) (F : Fp) (ds : List D) (ρ' : Env) (vs : List V) (Z' H' : Hp) (F' : Fp) (g : List Addr) : Prop where
  env : EnvR G ex Z' H' σ ρ' F'
  reps : Reps G (fz Z' H' g) H' ds vs []
  own : ∀ a ∈ g, InF F' a
  nb : hasBor es = false → g = []
  pur : purs es = true → F' = F
  ext : Ext (quiets es) Z H (InF F) Z' H' (InF F')
  len : ds.length = es.length
abbrev KA (G : Gx) (ex : Option (Nat × V)) (es : List E) (Z H : Hp) (σ : L2.St) (F : Fp) (Q : List V → Hp → Prop) : List D → Env → Prop := fun ds ρ' => ∀ vs Z' H' F' g, APost G ex es Z H σ F ds ρ' vs Z' H' F' g → Q vs H'
theorem fz_le {Z Z' H' : Hp} {g : List Addr} (s : L2.Same Z Z') (h : ∀ a ∈ g, Z' a = none) : L2.Same Z (fz Z' H' g) := fun a o e => by
  unfold fz
  by_cases ha : a ∈ g
  · have := s a o e; rw [h a ha] at this; cases this
  · rw [if_neg ha]; exact s a o e
theorem hasBor_cons {e : E} {es : List E} (h : isBor e = false) : hasBor (e :: es) = hasBor es := by
  cases e <;> first | rfl | (cases h; done)
theorem evAs_nb {k : D → Bool} {e : E} {es : List E} {ρ : Env} (h : isBor e = false) : evAs T k (e :: es) ρ = (evE T e ρ).bind fun d ρ1 => if ((isPlace e && !still d) || !k (Pd.frz d)) = true then .stk else (evAs T anyD es ρ1).bind fun ds ρ2 => .ok (Pd.frz d :: ds) ρ2 := by
  cases e <;> first | (cases h; done) | (rw [evAs]; intro _ q; cases q)
/-- the first argument, then the others -/
theorem evAs_head {k : D → Bool} {e : E} {es : List E} {σ : L2.St} {Z H : Hp} {ρ : Env} {F : Fp} {Q : List V → Hp → Prop} (hp : isBor e = true → isPlace (strip e) = true) (hb : hasBor (e :: es) = true → purs (e :: es) = true)
    (ok : Okk (evAs T k (e :: es) ρ) (KA G ex (e :: es) Z H σ F Q) (KX G ex W (quiets (e :: es)) Z H σ F)) :
    Okk (evE T (strip e) ρ) (fun d ρ1 => k (Pd.frz d) = true ∧ ∀ v Z1 H1 F1 f1, EPost G ex (pur (strip e)) (quiet (strip e)) (isPlace (strip e)) Z H σ F d ρ1 v Z1 H1 F1 f1 →
        ∃ Zf, EnvR G ex Zf H1 σ ρ1 F1 ∧ Okk (evAs T anyD es ρ1) (KA G ex es Zf H1 σ F1 fun vs H' => Q (v :: vs) H') (KX G ex W (quiets es) Zf H1 σ F1))
      (KX G ex W (quiet (strip e)) Z H σ F) := by
  cases hbe : isBor e with
  | false =>
    have he : strip e = e := by cases e <;> first | rfl | (cases hbe; done)
    rw [he]
    rw [evAs_nb hbe] at ok
    refine (Okk.bind ok).imp (fun d ρ1 ok1 => ?_) fun x ρ' kx cls dx Z' H' F' xp => kx cls dx Z' H' F' ⟨xp.env, xp.ext.wk fun q => (andB q).1, xp.is⟩
    obtain ⟨hc, ok2⟩ := Okk.ite ok1
    obtain ⟨hc, hk⟩ := bor_false hc
    refine ⟨not_false hk, fun v Z1 H1 F1 f1 p1 => ?_⟩
    have pv := p1.unpl ((and_false_or hc).imp id not_false)
    have own := Rep.own d v f1 pv.rep
    have hown : ∀ a ∈ f1, Z1 a = none ∧ ∃ o, H1 a = some o := fun a ha => rep_own pv.rep ha
    have rz : Rep G (Pd.fz Z1 H1 f1) H1 (Pd.frz d) v [] := Rep.frz d v f1 pv.rep (fz_same fun a ha => (hown a ha).1) fun a ha => fz_at ha
    have x1 : Ext (quiets (e :: es)) Z H (InF F) (Pd.fz Z1 H1 f1) H1 (InF F1) := by
      refine ⟨pv.ext.zz.trans (fz_same fun a ha => (hown a ha).1), fun a o h q => pv.ext.fr a o h (q.imp_left fun q => (andB q).1), fun a o h n => ?_, fun a ha => pv.ext.np a (.inl ha)⟩
      by_cases ha : a ∈ f1
      · exact pv.ext.np a (.inr ha)
      · unfold Pd.fz at h
        rw [if_neg ha] at h
        exact pv.ext.nz a o h n
    refine ⟨_, pv.env.fz hown (pv.val rfl), (Okk.bind ok2).imp (fun ds ρ2 ok3 vs Z2 H2 F2 g p2 => ?_) fun x ρ' kx cls dx Z' H' F' xp => kx cls dx Z' H' F' ⟨xp.env, x1.trans (xp.ext.wk fun q => (andB q).2), xp.is⟩⟩
    have hg : ∀ a ∈ g, Z2 a = none := fun a ha => (p2.env.owned (p2.own a ha)).1
    exact ok3 (v :: vs) Z2 H2 F2 g ⟨p2.env, ⟨v, vs, [], [], rfl, Rep.mono (fz_le p2.ext.zz hg) _ v [] (fun _ h => nomatch h) rz, p2.reps, rfl⟩, p2.own, fun q => p2.nb (by rw [← hasBor_cons hbe]; exact q), fun q => by rw [p2.pur (andB q).2, pv.pur (andB q).1], x1.trans (p2.ext.wk fun q => (andB q).2), congrArg (· + 1) p2.len⟩
  | true =>
    cases e with
    | bor a =>
      have hpl : isPlace a = true := hp rfl
      have hpu : purs es = true := (andB (hb rfl)).2
      show Okk (evE T a ρ) _ _
      rw [evAs] at ok
      refine (Okk.bind ok).imp (fun d ρ1 ok1 => ?_) fun x ρ' kx cls dx Z' H' F' xp => kx cls dx Z' H' F' ⟨xp.env, xp.ext.wk fun q => (andB q).1, xp.is⟩
      obtain ⟨hk, ok2⟩ := Okk.ite ok1
      refine ⟨not_false hk, fun v Z1 H1 F1 f1 p1 => ?_⟩
      have hin : ∀ a ∈ f1, InF F1 a := p1.plc hpl
      have x1 : Ext (quiets (.bor a :: es)) Z H (InF F) Z1 H1 (InF F1) := (p1.ext.imp fun a ha => .inl ha).wk fun q => (andB q).1
      refine ⟨Z1, p1.env, (Okk.bind ok2).imp (fun ds ρ2 ok3 vs Z2 H2 F2 g p2 => ?_) fun x ρ' kx cls dx Z' H' F' xp => kx cls dx Z' H' F' ⟨xp.env, x1.trans (xp.ext.wk fun q => (andB q).2), xp.is⟩⟩
      have hF : F2 = F1 := p2.pur hpu
      have hz : ∀ a ∈ f1 ++ g, Z2 a = none := fun a ha => (p2.env.owned (by
        rcases List.mem_append.mp ha with ha | ha
        · rw [hF]; exact hin a ha
        · exact p2.own a ha)).1
      have r1 : Rep G Z2 H2 d v f1 := Rep.mono p2.ext.zz d v f1 (fun a ha => ⟨fun o e => p2.ext.fr a o e (.inl (purs_quiets es hpu)), hz a (List.mem_append_left _ ha)⟩) p1.rep
      have s2 : L2.Same Z2 (Pd.fz Z2 H2 (f1 ++ g)) := fz_same hz
      have r2 : Rep G (Pd.fz Z2 H2 (f1 ++ g)) H2 (Pd.frz d) v [] := Rep.frz d v f1 r1 s2 fun a ha => fz_at (List.mem_append_left _ ha)
      have s3 : L2.Same (Pd.fz Z2 H2 g) (Pd.fz Z2 H2 (f1 ++ g)) := fun a o h => by
        by_cases ha : a ∈ g
        · rw [fz_at ha] at h
          rw [fz_at (List.mem_append_right _ ha)]
          exact h
        · unfold Pd.fz at h
          rw [if_neg ha] at h
          exact s2 a o h
      exact ok3 (v :: vs) Z2 H2 F2 (f1 ++ g) ⟨p2.env, ⟨v, vs, [], [], rfl, r2, Reps.mono s3 ds vs [] (fun _ h => nomatch h) p2.reps, rfl⟩, fun a ha => by
        rcases List.mem_append.mp ha with ha | ha
        · rw [hF]; exact hin a ha
        · exact p2.own a ha, fun q => (nomatch q), fun q => by rw [p2.pur (andB q).2, p1.pur (andB q).1], x1.trans (p2.ext.wk fun q => (andB q).2), congrArg (· + 1) p2.len⟩
    | _ => cases hbe
def tA (G : Gx) (ex : Option (Nat × V)) (W : WX) (T : Tab) (k : D → Bool) (es : List E) : TA := fun σ H Q => ∃ Z ρ F, EnvR G ex Z H σ ρ F ∧ Okk (evAs T k es ρ) (KA G ex es Z H σ F Q) (KX G ex W (quiets es) Z H σ F)
theorem hb_tail {e : E} {es : List E} (hb : hasBor (e :: es) = true → purs (e :: es) = true) : hasBor es = true → purs es = true := fun q => by
  cases h : isBor e with
  | false => exact (andB (hb (by rw [hasBor_cons h]; exact q))).2
  | true => cases e <;> first | (cases h; done) | exact (andB (hb rfl)).2
theorem evAs_nil {k : D → Bool} {σ : L2.St} {Z H : Hp} {ρ : Env} {F : Fp} {Q : List V → Hp → Prop} (env : EnvR G ex Z H σ ρ F) (ok : Okk (evAs T k [] ρ) (KA G ex [] Z H σ F Q) (KX G ex W (quiets []) Z H σ F)) : Q [] H := by
  rw [evAs] at ok
  exact ok [] Z H F [] ⟨env, ⟨rfl, rfl⟩, fun _ h => (nomatch h), fun _ => rfl, fun _ => rfl, Ext.refl, rfl⟩
theorem pa_app {ys : List Expr} {t2 : TA} (h2 : PA X ys t2) {es : List E} {xs : List Expr} (h : AllA G ex W T X es xs) : ∀ (k : D → Bool), (hasBor es = true → purs es = true) → PA X (xs ++ ys) (fun σ H Q => tA G ex W T k es σ H fun vs H1 => t2 σ H1 fun ws H2 => Q (vs ++ ws) H2) := by
  induction h with
  | nil => exact fun k _ => PA.imp h2 fun σ H Q ⟨Z, ρ, F, env, ok⟩ => evAs_nil env ok
  | cons h hb p r ih =>
    exact fun k hp => PA.imp (pa_cons h (ih anyD (hb_tail hp)) (star_eq p _ _)) fun σ H Q ⟨Z, ρ, F, env, ok⟩ => ⟨Z, ρ, F, env, (evAs_head hb hp ok).imp (fun d ρ1 q v Z1 H1 F1 f1 p1 => by
      obtain ⟨Zf, e1, o1⟩ := q.2 v Z1 H1 F1 f1 p1
      exact ⟨Zf, ρ1, F1, e1, o1⟩) fun _ _ q => q⟩
theorem AllA.pa {es : List E} {xs : List Expr} (h : AllA G ex W T X es xs) (k : D → Bool) (hb : hasBor es = true → purs es = true) : PA X xs (tA G ex W T k es) := by
  have := pa_app pa_nil h k hb
  rw [List.append_nil] at this
  refine PA.imp this fun σ H Q ⟨Z, ρ, F, env, ok⟩ => ⟨Z, ρ, F, env, ok.imp (fun ds ρ' q vs Z' H' F' g p => ?_) fun _ _ q => q⟩
  show Q (vs ++ []) H'
  rw [List.append_nil]
  exact q vs Z' H' F' g p
theorem AllA.plain {es : List E} {xs : List Expr} (h : AllA G ex W T X es xs) : allPlain xs = true := by
  induction h with
  | nil => rfl
  | cons h hb p r ih => exact Bool.and_eq_true_iff.mpr ⟨p, ih⟩
/-! ### behind a call -/
theorem reps_map {Z H : Hp} : ∀ {ds : List D} {vs : List V}, Reps G Z H ds vs [] → ∀ (i : Nat) (d : D), (ds.map some)[i]? = some (some d) → ∃ v, (vs.map some)[i]? = some (some v) ∧ Rep G Z H d v []
  | [], vs, r, i, d, h => by simp at h
  | e :: ds, vs, r, i, d, h => by
    obtain ⟨v, w, f1, f2, rfl, r1, r2, q⟩ := r
    obtain ⟨q1, q2⟩ := List.append_eq_nil_iff.mp q.symm
    subst q1 q2
    cases i with
    | zero => simp at h; subst h; exact ⟨v, by simp, r1⟩
    | succ i =>
      obtain ⟨u, h1, h2⟩ := reps_map r2 i d (by simpa using h)
      exact ⟨u, by simpa using h1, h2⟩
theorem EnvR.args {Z H : Hp} {ds : List D} {vs : List V} (s : Sub Z H) (r : Reps G Z H ds vs []) : EnvR G none Z H (vs.map some) (ds.map some) (fun _ => []) where
  len := by simp [reps_len r]
  at_ := fun i d h => reps_map r i d h
  off := fun _ _ => rfl
  nd := fun _ => List.nodup_nil
  dj := fun _ _ _ h => nomatch h
  sub := s
  exs := fun _ _ h => nomatch h
mutual
theorem flat_rep {Z H Z' H' : Hp} (k : ∀ a vs, Z a = some (.tup vs) → Z' a = some (.tup vs)) : ∀ (d : D) (v : V) (f : List Addr), flat d = true → Rep G Z H d v f → Rep G Z' H' d v f
  | .non, _, _, _, h => h
  | .bl _, _, _, _, h => h
  | .int _, _, _, _, h => h
  | .str _, _, _, _, h => h
  | .tup ds, v, f, hf, h => by
    obtain ⟨a, vs, e, s, r⟩ := h
    exact ⟨a, vs, e, k a vs s, flats_rep k ds vs f hf r⟩
  | .lst _, _, _, hf, _ => by cases hf
  | .ins _ _ _, _, _, hf, _ => by cases hf
  | .dct _ _ _, _, _, hf, _ => by cases hf
  | .mls _, _, _, hf, _ => by cases hf
  | .mns _ _ _, _, _, hf, _ => by cases hf
  | .mdc _ _ _, _, _, hf, _ => by cases hf
theorem flats_rep {Z H Z' H' : Hp} (k : ∀ a vs, Z a = some (.tup vs) → Z' a = some (.tup vs)) : ∀ (ds : List D) (vs : List V) (f : List Addr), flats ds = true → Reps G Z H ds vs f → Reps G Z' H' ds vs f
  | [], _, _, _, h => h
  | d :: ds, vs, f, hf, h => by
    obtain ⟨v, r, f1, f2, e, h1, h2, q⟩ := h
    exact ⟨v, r, f1, f2, e, flat_rep k d v f1 (andB hf).1 h1, flats_rep k ds r f2 (andB hf).2 h2, q⟩
end
/-- what was lent for a call is held again -/
def unz (Z : Hp) (g : List Addr) : Hp := fun a => if a ∈ g then none else Z a
theorem unz_nil {Z : Hp} : unz Z [] = Z := by
  funext a
  unfold unz
  rw [if_neg (fun h => nomatch h)]
theorem lent {Z1 H1 Z' H' : Hp} {σ : L2.St} {ρ1 : Env} {F1 : Fp} {g : List Addr} {P P' : Addr → Prop} (env : EnvR G ex Z1 H1 σ ρ1 F1) (own : ∀ a ∈ g, InF F1 a) (hP : ∀ a, ¬ P a) (sub : Sub Z' H') (x : Ext true (fz Z1 H1 g) H1 P Z' H' P') :
    EnvR G ex (unz Z' g) H' σ ρ1 F1 ∧ Ext true Z1 H1 (InF F1) (unz Z' g) H' (fun a => InF F1 a ∨ P' a) ∧ (∀ a, P' a → ¬ InF F1 a) := by
  have hz : ∀ a ∈ g, Z1 a = none := fun a ha => (env.owned (own a ha)).1
  have zz : L2.Same Z1 (unz Z' g) := fun a o e => by
    by_cases ha : a ∈ g
    · rw [hz a ha] at e; cases e
    · unfold unz
      rw [if_neg ha]
      refine x.zz a o ?_
      unfold Pd.fz
      rw [if_neg ha]
      exact e
  have nz : ∀ a o, unz Z' g a = some o → Z1 a = none → H1 a = none := fun a o e n => by
    unfold unz at e
    by_cases ha : a ∈ g
    · rw [if_pos ha] at e; cases e
    · rw [if_neg ha] at e
      refine (x.nz a o e ?_).resolve_left (hP a)
      unfold Pd.fz
      rw [if_neg ha]
      exact n
  refine ⟨env.mono zz (fun a ha => ⟨fun o e => x.fr a o e (.inl rfl), ?_⟩) fun a o e => ?_, ⟨zz, fun a o e _ => x.fr a o e (.inl rfl), fun a o e n => .inr (nz a o e n), fun a ha => ha.imp id fun q => (x.np a q).resolve_left (hP a)⟩, fun a ha hf => ?_⟩
  · obtain ⟨z, o, h, _⟩ := env.owned ha
    cases q : unz Z' g a with
    | none => rfl
    | some u => have := nz a u q z; rw [h] at this; cases this
  · unfold unz at e
    by_cases ha : a ∈ g
    · rw [if_pos ha] at e; cases e
    · rw [if_neg ha] at e; exact sub a o e
  · have := (x.np a ha).resolve_left (hP a)
    obtain ⟨_, o, h, _⟩ := env.owned hf
    rw [h] at this; cases this
theorem flat_unz {Z1 H1 Z' H' : Hp} {σ : L2.St} {ρ1 : Env} {F1 : Fp} {g : List Addr} {d : D} {v : V} {f : List Addr} (env : EnvR G ex Z1 H1 σ ρ1 F1) (own : ∀ a ∈ g, InF F1 a) (zz : L2.Same (fz Z1 H1 g) Z') (h : g = [] ∨ flat d = true) (r : Rep G Z' H' d v f) : Rep G (unz Z' g) H' d v f := by
  rcases h with h | h
  · subst h; rw [unz_nil]; exact r
  · refine flat_rep (fun a vs e => ?_) d v f h r
    unfold unz
    by_cases ha : a ∈ g
    · obtain ⟨_, o, h1, m, _⟩ := env.owned (own a ha)
      have := zz a o (by rw [fz_at ha]; exact h1)
      rw [this] at e
      cases e
      cases m
    · rw [if_neg ha]; exact e
theorem inF_nil {a : Addr} : ¬ InF (fun _ => []) a := fun ⟨_, h⟩ => nomatch h
theorem fmut_nil {f : Fd} (h : fmut f = true) : f.mu = [] := by
  unfold fmut at h
  split at h
  · assumption
  · cases h
/-- what a call of a def that changes nothing gives -/
theorem call_at {k : CK} {j : Nat} {f : Fd} {es : List E} {σ : L2.St} {Z H : Hp} {ρ : Env} {F : Fp} {Q : VK} (hf : T.fns[j]? = some f)
    (ok : Okk (evE T (.call k j es) ρ) (KO G ex (purs es) (quiets es) false Z H σ F Q) (KX G ex W (quiets es) Z H σ F)) :
    (hasBor es = true → purs es = true) ∧ Okk (evAs T (recv1 k) es ρ) (KA G ex es Z H σ F fun vs H1 => spD G f vs H1 Q (match k with
      | .prop _ _ => fun _ _ _ => False
      | _ => WE W σ)) (KX G ex W (quiets es) Z H σ F) := by
  rw [evE, hf] at ok
  obtain ⟨hc, ok1⟩ := Okk.ite ok
  obtain ⟨hm, hc⟩ := bor_false hc
  have hmu : f.mu = [] := fmut_nil (not_false hm)
  refine ⟨fun q => by rw [q] at hc; exact not_false hc, (Okk.bind ok1).imp (fun ds ρ1 ok2 vs Z1 H1 F1 g p => ?_) fun _ _ q => q⟩
  obtain ⟨hr, ok3⟩ := Okk.ite ok2
  have hz : ∀ a ∈ g, Z1 a = none := fun a ha => (p.env.owned (p.own a ha)).1
  have sub : Sub (fz Z1 H1 g) H1 := fz_sub p.env.sub fun a ha => let ⟨_, o, h, _⟩ := p.env.owned (p.own a ha); ⟨o, h⟩
  refine ⟨fz Z1 H1 g, ds, fun _ => [], EnvR.args sub p.reps, fun i a h => (nomatch h), ?_⟩
  cases hF : f.F ds with
  | stk => rw [hF] at ok3; exact ok3.elim
  | ok d ms =>
    rw [hF] at ok3
    obtain ⟨hb, kk⟩ := Okk.ite ok3
    simp only [hmu]
    intro v Z' H' fr sb x r nd
    obtain ⟨e2, x2, np⟩ := lent p.env p.own (fun _ q => q) sb x
    have hgf : g = [] ∨ flat d = true := by
      rcases and_false_or hb with q | q
      · exact .inl (p.nb q)
      · exact .inr (not_false q)
    exact kk v (unz Z' g) H' F1 fr ⟨e2, flat_unz p.env p.own x.zz hgf r, nd, fun _ a ha => np a ha, fun q => (nomatch q), p.pur, p.ext.trans (x2.wk fun _ => rfl)⟩
  | exn x =>
    rw [hF] at ok3
    intro cls dx Z' H' sb xt is
    have xt2 : Ext true (fz Z1 H1 g) H1 (InF fun _ => []) Z' H' (fun _ => False) := by rw [hmu] at xt; exact xt
    obtain ⟨e2, x2, np⟩ := lent p.env p.own (fun a => inF_nil) sb xt2
    cases k with
    | prop c' m => exact ok3.elim
    | fn => exact ok3 cls dx (unz Z' g) H' F1 ⟨e2, p.ext.trans ((x2.imp fun a ha => .inl ha).wk fun _ => rfl), is⟩
    | meth c' m => exact ok3 cls dx (unz Z' g) H' F1 ⟨e2, p.ext.trans ((x2.imp fun a ha => .inl ha).wk fun _ => rfl), is⟩
theorem Okk.ite2' {α : Type} {c : Prop} [Decidable c] {r : R α} {ko : α → Env → Prop} {kx : Exn → Env → Prop} (h : Okk (if c then r else .stk) ko kx) : c ∧ Okk r ko kx := by
  by_cases q : c
  · rw [if_pos q] at h; exact ⟨q, h⟩
  · rw [if_neg q] at h; exact h.elim
theorem XOk.cx (hX : XOk G c lv ex W X) : X.prog = G.P ∧ X.w = G.w := ⟨hX.p, hX.w⟩
/-- f(..) -/
theorem call_sound (hX : XOk G c lv ex W X) (hc : c.hot = false) {j : Nat} {f : Fd} {nm : Str} {e : E} {es : List E} {y : Expr} {ys : List Expr} {p pos : Pos} (hf : T.fns[j]? = some f) (ok : FdOk G lv (.fn nm) f) (hg : glB c.sc nm = true) (hb : hasBor (e :: es) = true → purs (e :: es) = true)
    (ha : AllA G ex W T X (e :: es) (y :: ys)) : PE X (.Call (.Name nm p) (y :: ys) [] pos) (tEE G ex W T (.call .fn j (e :: es))) := by
  obtain ⟨a, fd, ps, k, h1, h2, h3, h4, h5⟩ := ok
  obtain ⟨g1, g2, g3⟩ := glB_ok hX hg
  have pl := ha.plain
  rw [← hX.p, ← hX.w, ← hX.K, ← hX.mg, ← hX.base] at h3
  rw [← hX.mg] at h1
  rw [← hX.K] at h2 h4
  refine PE.imp (pe_callS (E := WE W) h3 ((hX.room hc).mono (by omega)) g1 h1 h2 h4 (passAt hX.tk) (ha.pa (recv1 .fn) hb) g2 (star_eq (andB pl).1 _ _) (back_plain _ (andB pl).2)) fun σ H Q ⟨Z, ρ, F, env, ok⟩ => ?_
  exact ⟨Z, ρ, F, env, (call_at hf ok).2⟩
/-! ### methods -/
theorem frz_ins {Z H : Hp} {d : D} {v : V} {f : List Addr} {c' : Nat} {m : Str} (sb : Sub Z H) (h : recvD c' m [Pd.frz d] = true) (r : Rep G Z H d v f) : ∃ a dx fs, v = .ref a ∧ H a = some (.ins (G.cad c') dx fs) ∧ fs.lookup m = none := by
  have go : ∀ (ns : List Str) (vs : List V), ns.contains m = false → (ns.zip vs).lookup m = none := by
    intro ns
    induction ns with
    | nil => intro vs _; rfl
    | cons n ns ih =>
      intro vs h
      cases vs with
      | nil => rfl
      | cons v vs =>
        simp only [List.contains_cons, Bool.or_eq_false_iff] at h
        rw [List.zip_cons_cons, List.lookup, h.1]
        exact ih vs h.2
  cases d with
  | ins c2 ns ds =>
    obtain ⟨h1, h2⟩ := andB (show (decide (c2 = c') && !ns.contains m) = true from h)
    have h1 := of_decide_eq_true h1
    subst h1
    obtain ⟨a, dx, vs, e, s, _⟩ := r
    exact ⟨a, dx, _, e, ins_up sb s, go ns vs (by simpa using h2)⟩
  | mns c2 ns ds =>
    obtain ⟨h1, h2⟩ := andB (show (decide (c2 = c') && !ns.contains m) = true from h)
    have h1 := of_decide_eq_true h1
    subst h1
    obtain ⟨a, dx, vs, g, e, s, _⟩ := r
    exact ⟨a, dx, _, e, s, go ns vs (by simpa using h2)⟩
  | _ => cases h
/-- o.m(..): what is let out may rest on the slots -/
def tMethS (C : Addr) (m : Str) (sp : Sp) (E : L2.St → XK) (ta : TE) (t : TA) : TE := fun σ H Q => ta σ H fun x H1 => ∃ a dx fs, x = .ref a ∧ H1 a = some (.ins C dx fs) ∧ fs.lookup m = none ∧ t σ H1 fun vs H2 => sp (x :: vs) H2 Q (E σ)
theorem pe_methE {CX : CXT} {k : Nat} {f C : Addr} {fd : FuncData} {ps : List Str} {sp : Sp} {E : L2.St → XK} {m : Str} {pos apos : Pos} {o : Expr} {es : List Expr} {ta : TE} {t : TA} (he : PE X o ta) (cl : Cls X.K C) (hm : Meth X.K C m f) (F : FnOk X.prog X.w X.K X.mg X.base CX k f fd ps sp) (hr : Room k X.A)
    (hb : Binds X.K fd ps []) (hx : ∀ σ, PassesAt CX X σ (E σ)) (ha : PA X es t) (h1 : baseX o = true) (h2 : allPlain es = true) (h3 : es.length < 20) (h4 : (apos.endLine == pos.line) = true) (h0 : es = [] → ∀ σ H Q, t σ H Q → Q [] H) :
    PE X (.Call (.Attribute o m apos) es [] pos) (tMethS C m sp E ta t) := by
  refine ⟨fun pins s σ H Q I h => ?_⟩
  refine PySem.W.methodCall_KW (pl := plainOf o X.env) (thn (he.run pins s σ H _ I h) fun u s1 ⟨x, H1, I1, rx, a, dx, fs, ex, ea, l, q⟩ => ?_) (eval_meth h1 h2 h3 h4)
  subst ex
  obtain rfl : u = Value.ref a := rx
  refine getmeth_ok I1 ea cl hm l ?_
  cases es with
  | nil =>
    exact PySem.W.callWith_K0 (first := [.ref a]) I1.kIn hm.kp (run_fnS (us := [.ref a]) (vs := [.ref a]) F hr hb (hx σ) I1 (.cons rfl .nil) (h0 rfl _ _ _ q))
  | cons y ys =>
    obtain ⟨p1, p2⟩ := andB h2
    exact PySem.W.callWith_K (first := [.ref a]) (h₀ := X.base) I.ok.mod.kin hm.kp (thn (ha.run pos pins s1 σ H1 _ I1 q) fun us s2 ⟨vs, H2, I2, r, q2⟩ => ⟨I2.kIn, run_fnS (us := .ref a :: us) (vs := .ref a :: vs) F hr hb (hx σ) I2 (.cons rfl r) q2⟩) (star_eq p1 _ _) (back_plain _ p2)
theorem AllA.nil_ta {es : List E} {k : D → Bool} (h : AllA G ex W T X es []) : ∀ σ H Q, tA G ex W T k es σ H Q → Q [] H := by
  cases h
  intro σ H Q ⟨Z, ρ, F, env, ok⟩
  exact evAs_nil env ok
theorem meth_sound (hX : XOk G c lv ex W X) (hc : c.hot = false) {j : Nat} {f : Fd} {c' : Nat} {m : Str} {e : E} {es : List E} {o : Expr} {ys : List Expr} {apos pos : Pos} (hf : T.fns[j]? = some f) (ok : FdOk G lv (.meth c' m) f) (hb : hasBor (e :: es) = true → purs (e :: es) = true)
    (ha : AllA G ex W T X (e :: es) (o :: ys)) (h1 : baseX o = true) (h3 : ys.length < 20) (h4 : (apos.endLine == pos.line) = true) : PE X (.Call (.Attribute o m apos) ys [] pos) (tEE G ex W T (.call (.meth c' m) j (e :: es))) := by
  obtain ⟨a, fd, ps, k, ⟨k1, k2⟩, k3, k4, k5⟩ := ok
  rw [← hX.p, ← hX.w, ← hX.K, ← hX.mg, ← hX.base] at k3
  rw [← hX.K] at k1 k2 k4
  cases ha with
  | cons he hbb hp hr =>
    refine PE.imp (pe_methE (E := WE W) he k1 k2 k3 ((hX.room hc).mono (by omega)) k4 (passAt hX.tk) (hr.pa anyD (hb_tail hb)) h1 hr.plain h3 h4 (fun q => by subst q; exact hr.nil_ta)) fun σ H Q ⟨Z, ρ, F, env, ok⟩ => ?_
    refine ⟨Z, ρ, F, env, (evAs_head hbb hb (call_at hf ok).2).imp (fun d ρ1 ⟨hk, q⟩ v Z1 H1 F1 f1 p1 => ?_) fun _ _ q => q⟩
    obtain ⟨Zf, e1, o1⟩ := q v Z1 H1 F1 f1 p1
    obtain ⟨b, dx, fs, r1, r2, r3⟩ := frz_ins p1.env.sub hk p1.rep
    exact ⟨b, dx, fs, r1, r2, r3, Zf, ρ1, F1, e1, o1⟩
/-- o.m, a property -/
theorem prop_sound (hX : XOk G c lv ex W X) (hc : c.hot = false) {j : Nat} {f : Fd} {c' : Nat} {m : Str} {e : E} {o : Expr} {pos : Pos} (hf : T.fns[j]? = some f) (ok : FdOk G lv (.prop c' m) f) (hb : hasBor [e] = true → purs [e] = true)
    (ha : AllA G ex W T X [e] [o]) (h1 : baseX o = true) : PE X (.Attribute o m pos) (tEE G ex W T (.call (.prop c' m) j [e])) := by
  obtain ⟨p, a, fd, ps, k, ⟨k1, k2⟩, k3, k4, k5⟩ := ok
  rw [← hX.p, ← hX.w, ← hX.K, ← hX.mg, ← hX.base] at k3
  rw [← hX.K] at k1 k2 k4
  cases ha with
  | cons he hbb hp hr =>
    cases hr
    refine PE.imp (pe_prop (E := fun _ _ _ => False) (dvs := []) (ds := []) he k1 k2 k3 ((hX.room hc).mono (by omega)) k4 .nil (fun pins σ H s u s' I ⟨_, _, _, _, _, _, _, _, _, _, _, _, q⟩ => q.elim) (base_eq h1 _ _)) fun σ H Q ⟨Z, ρ, F, env, ok⟩ => ?_
    refine ⟨Z, ρ, F, env, (evAs_head hbb hb (call_at hf ok).2).imp (fun d ρ1 ⟨hk, q⟩ v Z1 H1 F1 f1 p1 => ?_) fun _ _ q => q⟩
    obtain ⟨Zf, e1, o1⟩ := q v Z1 H1 F1 f1 p1
    obtain ⟨b, dx, fs, r1, r2, r3⟩ := frz_ins p1.env.sub hk p1.rep
    have q := evAs_nil e1 o1
    subst r1
    exact ⟨b, dx, fs, rfl, r2, q⟩
/-! ### a new instance -/
def tMakeS (C : Addr) (sp : Sp) (E : L2.St → XK) (t : TA) : TE := fun σ H Q => t σ H fun vs H1 => ∀ x dx, H1 x = none → H1 dx = none → dx ≠ x → sp (.ref x :: vs) (upd (upd H1 dx (.own x)) x (.ins C dx [])) (fun v H2 => v = .non ∧ Q (.ref x) H2) (E σ)
theorem run_makeS {CX : CXT} {k : Nat} {f C : Addr} {fd : FuncData} {ps : List Str} {sp : Sp} {E : XK} {pins : List (Addr × Obj)} {σ : L2.St} {H : Hp} {s : Shared} {Q : VK} {us : List Value} {vs : List V} (M : Mk X.K C f) (F : FnOk X.prog X.w X.K X.mg X.base CX k f fd ps sp) (hr : Room (k + 1) X.A) (hb : Binds X.K fd ps [])
    (hx : ∀ pins H s e s', Inv X pins σ H s → CX X.stack H s E e s' → X.xe e s') (I : Inv X pins σ H s) (r : Vals vs us)
    (h : ∀ x dx, H x = none → H dx = none → dx ≠ x → sp (.ref x :: vs) (upd (upd H dx (.own x)) x (.ins C dx [])) (fun v H2 => v = .non ∧ Q (.ref x) H2) E) :
    wpAny (model X.prog X.w) X.A (call (.ref C) us) (EP X pins σ Q) X.xe s := by
  have hq := h (s.heap.objs.size + 1) s.heap.objs.size (I.hok.fresh (Nat.le_succ _)) (I.hok.fresh (Nat.le_refl _)) (Nat.ne_of_lt (Nat.lt_succ_self _))
  have I2 := Inv.made (C := C) I
  have r2 : Vals (V.ref (s.heap.objs.size + 1) :: vs) (Value.ref (s.heap.objs.size + 1) :: us) := .cons rfl r
  have hl : (Value.ref (s.heap.objs.size + 1) :: us ++ []).length = ps.length := by
    have e := r2.length
    rw [F.len _ _ _ _ hq] at e
    rw [List.append_nil]
    exact e.symm
  have b := hb _ (Value.ref (s.heap.objs.size + 1) :: us) I2.kIn hl
  rw [List.append_nil] at b
  refine wpAny_call (make_map (f := f) I.kIn M.makes M.init (beq_iff_eq.mp M.fn) (codeAny_mono (F.run _ X.stack _ _ ⟨Value.ref (s.heap.objs.size + 1) :: us, []⟩ (Value.ref (s.heap.objs.size + 1) :: us) _ _ E (hr.make C us [])
    (I2.env0.make C us []) b r2 hq) fun r s' hq' => ?_))
  cases r with
  | error e => exact hx pins _ _ e s' I2 hq'
  | ok fl =>
    cases fl with
    | ret u =>
      obtain ⟨v, H', I3, rv, ev, q3⟩ := I2.after hq'
      subst ev
      exact ⟨rv, ⟨V.ref (s.heap.objs.size + 1), H', I3, rfl, q3⟩⟩
    | next => exact False.elim hq'
    | brk => exact False.elim hq'
    | cont => exact False.elim hq'
theorem pe_makeS {CX : CXT} {k : Nat} {f C : Addr} {fd : FuncData} {ps : List Str} {sp : Sp} {E : L2.St → XK} {x : Str} {p pos : Pos} {es : List Expr} {t : TA} (M : Mk X.K C f) (F : FnOk X.prog X.w X.K X.mg X.base CX k f fd ps sp) (hr : Room (k + 1) X.A) (hg : Gl X x) (hm : X.mg x = some (.ref C)) (hb : Binds X.K fd ps [])
    (hx : ∀ σ, PassesAt CX X σ (E σ)) (ha : PA X es t) (hdb : (x == ("__debug__" : Str)) = false) (hp : allPlain es = true) (h0 : es = [] → ∀ σ H Q, t σ H Q → Q [] H) : PE X (.Call (.Name x p) es [] pos) (tMakeS C sp E t) := by
  refine ⟨fun pins s σ H Q I h => ?_⟩
  refine wpAny_Call_Name_kw (ld_glob I hg hm ?_ hdb)
  cases es with
  | nil => exact PySem.W.callWith_K0 I.kIn M.kp (run_makeS (us := []) M F hr hb (hx σ) I .nil (h0 rfl _ _ _ h))
  | cons y ys =>
    obtain ⟨p1, p2⟩ := andB hp
    exact PySem.W.callWith_K (h₀ := X.base) I.ok.mod.kin M.kp (thn (ha.run pos pins s σ H _ I h) fun us s1 ⟨vs, H1, I1, r, q⟩ => ⟨I1.kIn, run_makeS M F hr hb (hx σ) I1 r q⟩) (star_eq p1 _ _) (back_plain _ p2)
theorem make_sound (hX : XOk G c lv ex W X) (hc : c.hot = false) {j : Nat} {cf : Nat × Fd} {cx : Nat × Str} {es : List E} {ys : List Expr} {p pos : Pos} (hf : T.cls[j]? = some cf) (ok : MkOk G lv cx cf) (hg : glB c.sc cx.2 = true)
    (ha : AllA G ex W T X es ys) : PE X (.Call (.Name cx.2 p) ys [] pos) (tEE G ex W T (.make j es)) := by
  obtain ⟨hcx, a, fd, ps, k, k1, k2, k3, k4, k5⟩ := ok
  obtain ⟨c', f⟩ := cf
  obtain ⟨c2, nm⟩ := cx
  replace hcx : c2 = c' := hcx
  subst hcx
  obtain ⟨g1, g2, g3⟩ := glB_ok hX hg
  rw [← hX.p, ← hX.w, ← hX.K, ← hX.mg, ← hX.base] at k3
  rw [← hX.mg] at k1
  rw [← hX.K] at k2 k4
  by_cases hbb : hasBor es = true
  · refine ⟨fun pins s σ H Q I ⟨Z, ρ, F, env, ok⟩ => ?_⟩
    rw [evE, hf] at ok
    simp only [hbb, if_true] at ok
    obtain ⟨_, ok⟩ := Okk.ite2' ok
    exact ok.elim
  refine PE.imp (pe_makeS (E := WE W) k2 k3 ((hX.room hc).mono (by omega)) g1 k1 k4 (passAt hX.tk) (ha.pa anyD (fun q => absurd q hbb)) g2 ha.plain (fun q => by subst q; exact ha.nil_ta)) fun σ H Q ⟨Z, ρ, F, env, ok⟩ => ?_
  rw [evE, hf] at ok
  obtain ⟨hmu, ok1⟩ := Okk.ite2' ok
  replace hmu : f.mu = [0] := hmu
  obtain ⟨_, ok1⟩ := Okk.ite ok1
  refine ⟨Z, ρ, F, env, (Okk.bind ok1).imp (fun ds ρ1 ok2 vs Z1 H1 F1 g p x dx hx hdx hne => ?_) fun _ _ q => q⟩
  have hg0 : g = [] := p.nb (not_true hbb)
  subst hg0
  have fr1 : Fr Z1 H1 Z1 (upd H1 dx (.own x)) := Fr.own p.env.sub hdx
  have hx1 : upd H1 dx (.own x) x = none := by rw [upd_ne (Ne.symm hne)]; exact hx
  have fr2 : Fr Z1 H1 Z1 (upd (upd H1 dx (.own x)) x (.ins (G.cad c2) dx [])) := fr1.trans (Fr.own fr1.sub hx1)
  have hzx : Z1 x = none := sub_none p.env.sub hx
  have reps : Reps G Z1 H1 ds vs [] := by
    have := p.reps
    have e : Pd.fz Z1 H1 [] = Z1 := by funext a; unfold Pd.fz; rw [if_neg (fun h => nomatch h)]
    rw [e] at this
    exact this
  have rx : Rep G Z1 (upd (upd H1 dx (.own x)) x (.ins (G.cad c2) dx [])) (.mns c2 [] []) (.ref x) [x] := ⟨x, dx, [], [], rfl, by rw [upd_same]; rfl, hzx, rfl, ⟨rfl, rfl⟩, rfl⟩
  have hin : ∀ a, InF (fun i => if i = 0 then [x] else []) a → a = x := fun a ⟨i, h⟩ => by
    by_cases q : i = 0
    · simp only [q, if_true] at h
      cases h with
      | head => rfl
      | tail _ h => cases h
    · simp only [q, if_false] at h
      cases h
  have e0 := EnvR.args fr2.sub (reps.fr fr2)
  have ec : EnvR G none Z1 (upd (upd H1 dx (.own x)) x (.ins (G.cad c2) dx [])) ((V.ref x :: vs).map some) ((D.mns c2 [] [] :: ds).map some) (fun i => if i = 0 then [x] else []) := by
    refine ⟨by simp [reps_len reps], fun i d h => ?_, fun i h => ?_, fun i => ?_, fun i j a h h' => ?_, fr2.sub, fun _ _ q => nomatch q⟩
    · cases i with
      | zero => simp at h; subst h; exact ⟨.ref x, by simp, rx⟩
      | succ i =>
        obtain ⟨v, h1, h2⟩ := e0.at_ i d (by simpa using h)
        exact ⟨v, by simpa using h1, h2⟩
    · cases i with
      | zero => exact absurd (by simp) (h (.mns c2 [] []))
      | succ i => rfl
    · by_cases q : i = 0
      · simp only [q, if_true]; exact nodup1
      · simp only [q, if_false]; exact List.nodup_nil
    · by_cases q : i = 0
      · by_cases q' : j = 0
        · rw [q, q']
        · simp only [q', if_false] at h'; cases h'
      · simp only [q, if_false] at h; cases h
  have ext2 : ∀ {Z' H' : Hp} {P' : Addr → Prop} {b : Bool}, Ext b Z1 (upd (upd H1 dx (.own x)) x (.ins (G.cad c2) dx [])) (InF fun i => if i = 0 then [x] else []) Z' H' P' →
      Ext (quiets es) Z1 H1 (InF F1) Z' H' (fun a => InF F1 a ∨ P' a) ∧ (∀ a, P' a → ¬ InF F1 a) ∧ (Sub Z' H' → EnvR G ex Z' H' σ ρ1 F1) := by
    intro Z' H' P' b xt
    have nx : ∀ a o, H1 a = some o → a ≠ x := fun a o h q => by rw [q, hx] at h; cases h
    have fr : ∀ a o, H1 a = some o → H' a = some o := fun a o h => xt.fr a o (fr2.hh a o h) (.inr fun q => nx a o h (hin a q))
    have nz : ∀ a o, Z' a = some o → Z1 a = none → H1 a = none := fun a o h n => by
      rcases xt.nz a o h n with q | q
      · rw [hin a q]; exact hx
      · exact fr2.hh.free q
    have np : ∀ a, P' a → H1 a = none := fun a h => by
      rcases xt.np a h with q | q
      · rw [hin a q]; exact hx
      · exact fr2.hh.free q
    refine ⟨⟨xt.zz, fun a o h _ => fr a o h, fun a o h n => .inr (nz a o h n), fun a h => h.imp id (np a)⟩, fun a h q => ?_, fun sb => p.env.mono xt.zz (fun a ha => ⟨fr a, ?_⟩) sb⟩
    · obtain ⟨_, o, e, _⟩ := p.env.owned q
      rw [np a h] at e; cases e
    · obtain ⟨z, o, e, _⟩ := p.env.owned ha
      cases q : Z' a with
      | none => rfl
      | some u => have := nz a u q z; rw [e] at this; cases this
  refine ⟨Z1, D.mns c2 [] [] :: ds, _, ec, fun i a h => ?_, ?_⟩
  · by_cases q : i = 0
    · rw [q]; exact hmu
    · simp only [q, if_false] at h; cases h
  cases hF : f.F (D.mns c2 [] [] :: ds) with
  | stk => rw [hF] at ok2; exact ok2.elim
  | exn x' =>
    rw [hF] at ok2
    intro cls dx' Z' H' sb xt is
    obtain ⟨x2, _, e2⟩ := ext2 xt
    exact ok2 cls dx' Z' H' F1 ⟨e2 sb, p.ext.trans (x2.imp fun a h => .inl h), is⟩
  | ok d ms =>
    rw [hF] at ok2
    simp only [hmu]
    cases d with
    | non =>
      cases ms with
      | nil => exact ok2.elim
      | cons m ms =>
        cases ms with
        | cons _ _ => exact ok2.elim
        | nil =>
          intro v w Z' H' fr g hw sb xt rv rm nd
          obtain ⟨x2, np, e2⟩ := ext2 xt
          obtain ⟨rfl, rfl⟩ := rv
          have hw' : w = .ref x := by simpa using hw.symm
          subst hw'
          exact ⟨rfl, ok2 (.ref x) Z' H' F1 g ⟨e2 sb, rm, nd, fun _ a ha => np a (.inr ha), fun q => (nomatch q), p.pur, p.ext.trans (x2.imp fun a h => h.imp id .inr)⟩⟩
    | _ => exact ok2.elim
end
end Pd

set_option Elab.async false
set_option linter.all false
set_option maxRecDepth 100000
set_option maxHeartbeats 2000000
/-! PdK: calls that change what a slot holds. -/
namespace Pd
open PySem PySem.Spec PyProof.Rows L2
section
variable {G : Gx} {c : Ck} {lv : Nat} {ex : Option (Nat × V)} {W : WX} {X : Cx} {T : Tab}
/-- a slot's value stays, what it stands for changes -/
theorem EnvR.put2 {Z H : Hp} {σ : L2.St} {ρ : Env} {F : Fp} (e : EnvR G ex Z H σ ρ F) {i : Nat} (hi : i < ρ.length) {x : Option D} {y : Option V} {f : List Addr} (hv : σ[i]? = some y) (hx : ∀ d, x = some d → ∃ v, y = some v ∧ Rep G Z H d v f) (hn : x = none → f = []) (hf : f.Nodup) (hd : ∀ a ∈ f, ∀ j, j ≠ i → a ∉ F j) :
    EnvR G ex Z H σ (ρ.set i x) (upF F i f) := by
  have e0 : EnvR G none Z H σ ρ F := ⟨e.len, e.at_, e.off, e.nd, e.dj, e.sub, fun _ _ q => nomatch q⟩
  have e1 := e0.put hi (y := y) hx hn hf hd (fun _ _ q => nomatch q)
  have hσ : σ.set i y = σ := by
    obtain ⟨hlt, he⟩ := List.getElem?_eq_some_iff.mp hv
    rw [← he, List.set_getElem_self]
  rw [hσ] at e1
  exact ⟨e1.len, e1.at_, e1.off, e1.nd, e1.dj, e1.sub, e.exs⟩
theorem reps_cat {Z H : Hp} {d0 : D} {v0 : V} {f : List Addr} {ds' : List D} {ws : List V} (r0 : Rep G Z H d0 v0 f) (r' : Reps G Z H ds' ws []) : ∀ {ds : List D} {vs : List V}, Reps G Z H ds vs [] → ∀ (k : Nat) (d : D), ((ds ++ d0 :: ds').map some)[k]? = some (some d) →
    ∃ v, ((vs ++ v0 :: ws).map some)[k]? = some (some v) ∧ Rep G Z H d v (if k = ds.length then f else [])
  | [], vs, r, k, d, h => by
    obtain ⟨rfl, _⟩ := r
    cases k with
    | zero =>
      simp at h
      subst h
      exact ⟨v0, by simp, by simpa using r0⟩
    | succ k =>
      obtain ⟨v, h1, h2⟩ := reps_map r' k d (by simpa using h)
      exact ⟨v, by simpa using h1, by simpa using h2⟩
  | e :: ds, vs, r, k, d, h => by
    obtain ⟨v, w, f1, f2, rfl, r1, r2, q⟩ := r
    obtain ⟨q1, q2⟩ := List.append_eq_nil_iff.mp q.symm
    subst q1 q2
    cases k with
    | zero =>
      simp at h
      subst h
      exact ⟨v, by simp, by simpa using r1⟩
    | succ k =>
      obtain ⟨u, h1, h2⟩ := reps_cat r0 r' r2 k d (by simpa using h)
      exact ⟨u, by simpa using h1, by simpa using h2⟩
theorem EnvR.args1 {Z H : Hp} {d0 : D} {v0 : V} {f : List Addr} {ds ds' : List D} {vs ws : List V} (s : Sub Z H) (nd : f.Nodup) (r : Reps G Z H ds vs []) (r0 : Rep G Z H d0 v0 f) (r' : Reps G Z H ds' ws []) :
    EnvR G none Z H ((vs ++ v0 :: ws).map some) ((ds ++ d0 :: ds').map some) (fun k => if k = ds.length then f else []) where
  len := by simp [reps_len r, reps_len r']
  at_ := fun k d h => reps_cat r0 r' r k d h
  off := fun k h => by
    by_cases q : k = ds.length
    · exact absurd (by rw [q]; simp) (h d0)
    · rw [if_neg q]
  nd := fun k => by
    by_cases q : k = ds.length
    · rw [if_pos q]; exact nd
    · rw [if_neg q]; exact List.nodup_nil
  dj := fun i j a h h' => by
    by_cases q : i = ds.length
    · by_cases q' : j = ds.length
      · rw [q, q']
      · rw [if_neg q'] at h'; cases h'
    · rw [if_neg q] at h; cases h
  sub := s
  exs := fun _ _ h => nomatch h
theorem inF_one {n : Nat} {f : List Addr} {a : Addr} : InF (fun k => if k = n then f else []) a ↔ a ∈ f := by
  constructor
  · intro ⟨i, h⟩
    by_cases q : i = n
    · simp only [q, if_true] at h; exact h
    · simp only [q, if_false] at h; cases h
  · intro h
    exact ⟨n, by simp only [if_true]; exact h⟩
theorem fz_nil {Z H : Hp} : Pd.fz Z H [] = Z := by
  funext a
  unfold Pd.fz
  rw [if_neg (fun h => nomatch h)]
/-- behind the arguments: the call, then the slot -/
theorem mcall_fin {f : Fd} {i : Nat} {Z2 H2 : Hp} {σ : L2.St} {ρ2 : Env} {F2 : Fp} {ds ds' : List D} {d0 : D} {vs ws : List V} {v0 : V} {Q : VK} (hmu : f.mu = [ds.length]) (env : EnvR G ex Z2 H2 σ ρ2 F2) (hi : ρ2[i]? = some (some d0)) (hv : σ[i]? = some (some v0))
    (r : Reps G Z2 H2 ds vs []) (r0 : Rep G Z2 H2 d0 v0 (F2 i)) (r' : Reps G Z2 H2 ds' ws [])
    (ok : Okk (match f.F (ds ++ d0 :: ds') with
        | .ok d [d1] => .ok d (ρ2.set i (some d1))
        | .ok _ _ => .stk
        | .exn x => .exn x (ρ2.set i none)
        | .stk => .stk) (KO G ex false false false Z2 H2 σ F2 Q) (KX G ex W false Z2 H2 σ F2)) : spD G f (vs ++ v0 :: ws) H2 Q (WE W σ) := by
  have hlt : i < ρ2.length := getSlot hi
  have e1 := env.put2 hlt (x := none) (y := some v0) (f := []) hv (fun d q => nomatch q) (fun _ => rfl) List.nodup_nil (fun a ha => nomatch ha)
  have out : ∀ a, InF (upF F2 i []) a → ¬ a ∈ F2 i := fun a h q => by
    rcases inF_up h with h | ⟨j, hj, h⟩
    · cases h
    · exact hj (env.dj j i a h q)
  have inn : ∀ a, InF (upF F2 i []) a → InF F2 a := fun a h => by
    rcases inF_up h with h | ⟨j, hj, h⟩
    · cases h
    · exact ⟨j, h⟩
  have after : ∀ {Z' H' : Hp} {P' : Addr → Prop} {b : Bool}, Sub Z' H' → Ext b Z2 H2 (InF fun k => if k = ds.length then F2 i else []) Z' H' P' →
      EnvR G ex Z' H' σ (ρ2.set i none) (upF F2 i []) ∧ (∀ a, P' a → ¬ InF (upF F2 i []) a) ∧ Ext false Z2 H2 (InF F2) Z' H' (fun a => InF (upF F2 i []) a ∨ P' a) := by
    intro Z' H' P' b sb xt
    have kp : ∀ a, InF (upF F2 i []) a → (∀ o, H2 a = some o → H' a = some o) ∧ Z' a = none ∧ ¬ P' a := fun a h => by
      obtain ⟨z, o, e, _⟩ := env.owned (inn a h)
      obtain ⟨k1, k2, k3⟩ := xt.keep z e (fun q => out a h (inF_one.mp q))
      exact ⟨fun u e' => by rw [e] at e'; cases e'; exact k1, k2, k3⟩
    refine ⟨e1.mono xt.zz (fun a h => ⟨(kp a h).1, (kp a h).2.1⟩) sb, fun a h q => (kp a q).2.2 h, ⟨xt.zz, fun a o e q => xt.fr a o e (.inr fun q' => ?_), fun a o e n => (xt.nz a o e n).imp (fun q => ⟨i, inF_one.mp q⟩) id, fun a h => ?_⟩⟩
    · rcases q with q | q
      · cases q
      · exact q ⟨i, inF_one.mp q'⟩
    · rcases h with h | h
      · exact .inl (inn a h)
      · exact (xt.np a h).imp (fun q => ⟨i, inF_one.mp q⟩) id
  refine ⟨Z2, ds ++ d0 :: ds', _, EnvR.args1 env.sub (env.nd i) r r0 r', fun k a h => ?_, ?_⟩
  · by_cases q : k = ds.length
    · rw [q]; exact hmu
    · simp only [q, if_false] at h; cases h
  cases hF : f.F (ds ++ d0 :: ds') with
  | stk => rw [hF] at ok; exact ok.elim
  | exn x =>
    rw [hF] at ok
    intro cls dx Z' H' sb xt is
    obtain ⟨e2, _, x2⟩ := after sb xt
    exact ok cls dx Z' H' (upF F2 i []) ⟨e2, x2.imp fun a h => .inl h, is⟩
  | ok d ms =>
    rw [hF] at ok
    simp only [hmu]
    cases ms with
    | nil => exact ok.elim
    | cons m ms =>
      cases ms with
      | cons _ _ => exact ok.elim
      | nil =>
        intro v w Z' H' fr g hw sb xt rv rm nd
        obtain ⟨e2, np, x2⟩ := after sb xt
        have hw' : w = v0 := by
          have hl : ds.length = vs.length := (reps_len r).symm
          rw [hl] at hw
          simpa using hw.symm
        subst hw'
        have nd' := List.nodup_append.mp nd
        have e3 := e2.put2 (by rw [List.length_set]; exact hlt) (x := some m) (y := some w) (f := g) hv (fun d q => by cases q; exact ⟨w, rfl, rm⟩) (fun q => nomatch q) nd'.2.1 (fun a ha j hj q => np a (.inr ha) ⟨j, q⟩)
        rw [List.set_set] at e3
        refine ok v Z' H' _ fr ⟨e3, rv, nd'.1, fun _ a ha q => ?_, fun q => (nomatch q), fun q => (nomatch q), x2.imp fun a h => ?_⟩
        · rcases inF_up q with q | ⟨j, hj, q⟩
          · exact nd'.2.2 a ha a q rfl
          · exact np a (.inl ha) ⟨j, q⟩
        · rcases h with h | h
          · rcases inF_up h with h | ⟨j, hj, h⟩
            · exact .inr (.inr h)
            · exact .inl ⟨j, h⟩
          · exact .inr (.inl h)
theorem recv_ins {Z H : Hp} {d : D} {v : V} {f : List Addr} {c' : Nat} {m : Str} (sb : Sub Z H) (h : recvD c' m [d] = true) (r : Rep G Z H d v f) : ∃ a dx fs, v = .ref a ∧ H a = some (.ins (G.cad c') dx fs) ∧ fs.lookup m = none := by
  refine frz_ins sb ?_ r
  cases d <;> first | exact h | (cases h; done)
theorem headOk_some {k : CK} {es : List E} {o : Option (Option D)} (h : headOk k es o = true) : ∃ d, o = some (some d) ∧ (es = [] → recv1 k d = true) := by
  cases o with
  | none => cases es <;> cases h
  | some x =>
    cases x with
    | none => cases es <;> cases h
    | some d =>
      cases es with
      | nil => exact ⟨d, rfl, fun _ => h⟩
      | cons _ _ => exact ⟨d, rfl, fun q => nomatch q⟩
theorem allPlain_app : ∀ {ys zs : List Expr}, allPlain ys = true → allPlain zs = true → allPlain (ys ++ zs) = true
  | [], _, _, h => h
  | y :: ys, _, h, h' => Bool.and_eq_true_iff.mpr ⟨(andB h).1, allPlain_app (andB h).2 h'⟩
theorem reps_nil_fz {Z H : Hp} {ds : List D} {vs : List V} (r : Reps G (Pd.fz Z H []) H ds vs []) : Reps G Z H ds vs [] := by
  rw [fz_nil] at r; exact r
/-- the arguments on both sides of the slot -/
theorem mcall_at {k : CK} {j i : Nat} {f : Fd} {pre post : List E} {σ : L2.St} {Z H : Hp} {ρ : Env} {F : Fp} {Q : VK} (hf : T.fns[j]? = some f) (env : EnvR G ex Z H σ ρ F)
    (ok : Okk (evE T (.mcall k j pre i post) ρ) (KO G ex false false false Z H σ F Q) (KX G ex W false Z H σ F)) :
    hasBor pre = false ∧ hasBor post = false ∧ Okk (evAs T (recv1 k) pre ρ) (KA G ex pre Z H σ F fun vs H1 => ∃ Z1 F1 ρ1, EnvR G ex Z1 H1 σ ρ1 F1 ∧ headOk k pre ρ1[i]? = true ∧
      tA G ex W T anyD post σ H1 fun ws H2 => ∃ v0, σ[i]? = some (some v0) ∧ spD G f (vs ++ v0 :: ws) H2 Q (WE W σ)) (KX G ex W (quiets pre) Z H σ F) := by
  rw [evE, hf] at ok
  obtain ⟨hmu, ok1⟩ := Okk.ite2' ok
  obtain ⟨hb, ok1⟩ := Okk.ite ok1
  obtain ⟨hb1, hb2⟩ := bor_false hb
  refine ⟨hb1, hb2, (Okk.bind ok1).imp (fun ds ρ1 ok2 vs Z1 H1 F1 g p => ?_) fun x ρ' kx cls dx Z' H' F' xp => kx cls dx Z' H' F' ⟨xp.env, xp.ext.wk fun q => (nomatch q), xp.is⟩⟩
  have hg0 : g = [] := p.nb hb1
  subst hg0
  obtain ⟨hh, ok2⟩ := Okk.ite ok2
  refine ⟨Z1, F1, ρ1, p.env, not_false hh, Z1, ρ1, F1, p.env, (Okk.bind ok2).imp (fun ds' ρ2 ok3 ws Z2 H2 F2 g p2 => ?_) fun x ρ' kx cls dx Z' H' F' xp => kx cls dx Z' H' F' (XPost.up (P1 := InF F1) p.ext (fun b hb => hb) (fun q => nomatch q) ⟨xp.env, xp.ext.wk fun q => (nomatch q), xp.is⟩)⟩
  have hg0 : g = [] := p2.nb hb2
  subst hg0
  split at ok3
  · rename_i d0 hi
    obtain ⟨hr, ok4⟩ := Okk.ite ok3
    obtain ⟨v0, hv, r0⟩ := p2.env.at_ i d0 hi
    have r1 := reps_nil_fz p.reps
    have r2 := reps_nil_fz p2.reps
    have r1' : Reps G Z2 H2 ds vs [] := Reps.mono p2.ext.zz ds vs [] (fun _ h => nomatch h) r1
    refine ⟨v0, hv, mcall_fin ?_ p2.env hi hv r1' r0 r2 (ok4.imp (fun d ρ3 kk v Z' H' F' fr q => kk v Z' H' F' fr ⟨q.env, q.rep, q.nd, q.val, q.plc, fun q => (nomatch q), ?_⟩) fun x ρ' kx cls dx Z' H' F' xp => kx cls dx Z' H' F' ⟨xp.env, ?_, xp.is⟩)⟩
    · rw [p.len]; exact hmu
    · exact ((p.ext.wk (q' := false) fun q => (nomatch q)).trans (p2.ext.wk (q' := false) fun q => (nomatch q))).trans q.ext
    · exact ((p.ext.wk (q' := false) fun q => (nomatch q)).trans (p2.ext.wk (q' := false) fun q => (nomatch q))).trans xp.ext
  · exact ok3.elim
/-- f(.., slot, ..): f changes what the slot holds -/
theorem mcallF_sound (hX : XOk G c lv ex W X) (hc : c.hot = false) {j i : Nat} {f : Fd} {nm x : Str} {pre post : List E} {ys zs : List Expr} {p p2 pos : Pos} (hf : T.fns[j]? = some f) (ok : FdOk G lv (.fn nm) f) (hg : glB c.sc nm = true) (hs : slotB c i x = true)
    (ha : AllA G ex W T X pre ys) (hz : AllA G ex W T X post zs) : PE X (.Call (.Name nm p) (ys ++ .Name x p2 :: zs) [] pos) (tEE G ex W T (.mcall .fn j pre i post)) := by
  obtain ⟨a, fd, ps, k, h1, h2, h3, h4, h5⟩ := ok
  obtain ⟨g1, g2, g3⟩ := glB_ok hX hg
  obtain ⟨v1, v2, v3, v4⟩ := slotB_ok hX hs
  rw [← hX.p, ← hX.w, ← hX.K, ← hX.mg, ← hX.base] at h3
  rw [← hX.mg] at h1
  rw [← hX.K] at h2 h4
  by_cases hb1 : hasBor pre = true
  · refine ⟨fun pins s σ H Q I ⟨Z, ρ, F, env, ok⟩ => ?_⟩
    have := (mcall_at hf env ok).1
    rw [hb1] at this; cases this
  by_cases hb2 : hasBor post = true
  · refine ⟨fun pins s σ H Q I ⟨Z, ρ, F, env, ok⟩ => ?_⟩
    have := (mcall_at hf env ok).2.1
    rw [hb2] at this; cases this
  have hpa : PA X (ys ++ .Name x p2 :: zs) _ := pa_app (pa_cons (pe_var v1 v2 v3 v4) (hz.pa anyD (fun q => absurd q hb2)) rfl) ha (recv1 .fn) (fun q => absurd q hb1)
  have pl : allPlain (ys ++ .Name x p2 :: zs) = true := allPlain_app ha.plain (Bool.and_eq_true_iff.mpr ⟨rfl, hz.plain⟩)
  obtain ⟨y, rest, hy⟩ : ∃ y rest, ys ++ .Name x p2 :: zs = y :: rest := by
    cases ys with
    | nil => exact ⟨_, _, rfl⟩
    | cons y ys => exact ⟨_, _, rfl⟩
  rw [hy] at hpa pl ⊢
  refine PE.imp (pe_callS (E := WE W) h3 ((hX.room hc).mono (by omega)) g1 h1 h2 h4 (passAt hX.tk) hpa g2 (star_eq (andB pl).1 _ _) (back_plain _ (andB pl).2)) fun σ H Q ⟨Z, ρ, F, env, ok⟩ => ?_
  obtain ⟨_, _, o1⟩ := mcall_at hf env ok
  refine ⟨Z, ρ, F, env, o1.imp (fun ds ρ1 q vs Z1 H1 F1 g p => ?_) fun _ _ q => q⟩
  obtain ⟨Z1', F1', ρ1', e1, hh, Z2, ρ2, F2, e2, o2⟩ := q vs Z1 H1 F1 g p
  obtain ⟨d, hi, _⟩ := headOk_some hh
  obtain ⟨v0, hv, _⟩ := e1.at_ i d hi
  refine ⟨v0, hv, Z2, ρ2, F2, e2, o2.imp (fun ds ρ2 q vs Z2 H2 F2 g p => ?_) fun _ _ q => q⟩
  obtain ⟨v0', hv', q⟩ := q vs Z2 H2 F2 g p
  rw [hv] at hv'
  cases hv'
  exact q
/-- slot.m(..): m changes what the slot holds -/
theorem mcallM_sound (hX : XOk G c lv ex W X) (hc : c.hot = false) {j i : Nat} {f : Fd} {c' : Nat} {m x : Str} {post : List E} {zs : List Expr} {p2 apos pos : Pos} (hf : T.fns[j]? = some f) (ok : FdOk G lv (.meth c' m) f) (hs : slotB c i x = true)
    (hz : AllA G ex W T X post zs) (h3 : zs.length < 20) (h4 : (apos.endLine == pos.line) = true) : PE X (.Call (.Attribute (.Name x p2) m apos) zs [] pos) (tEE G ex W T (.mcall (.meth c' m) j [] i post)) := by
  obtain ⟨a, fd, ps, k, ⟨k1, k2⟩, k3, k4, k5⟩ := ok
  obtain ⟨v1, v2, v3, v4⟩ := slotB_ok hX hs
  rw [← hX.p, ← hX.w, ← hX.K, ← hX.mg, ← hX.base] at k3
  rw [← hX.K] at k1 k2 k4
  by_cases hb2 : hasBor post = true
  · refine ⟨fun pins s σ H Q I ⟨Z, ρ, F, env, ok⟩ => ?_⟩
    have := (mcall_at hf env ok).2.1
    rw [hb2] at this; cases this
  refine PE.imp (pe_methE (E := WE W) (pe_var v1 v2 v3 v4) k1 k2 k3 ((hX.room hc).mono (by omega)) k4 (passAt hX.tk) (hz.pa anyD (fun q => absurd q hb2)) rfl hz.plain h3 h4 (fun q => by subst q; exact hz.nil_ta)) fun σ H Q ⟨Z, ρ, F, env, ok⟩ => ?_
  obtain ⟨_, _, o1⟩ := mcall_at hf env ok
  obtain ⟨Z1, F1, ρ1, e1, hh, hpost⟩ := evAs_nil env o1
  obtain ⟨d, hi, hr⟩ := headOk_some hh
  replace hr : recvD c' m [d] = true := hr rfl
  obtain ⟨v0, hv, r0⟩ := e1.at_ i d hi
  obtain ⟨b, dx, fs, r1, r2, r3⟩ := recv_ins e1.sub hr r0
  refine ⟨v0, hv, b, dx, fs, r1, r2, r3, ?_⟩
  obtain ⟨Z', ρ', F', e', o'⟩ := hpost
  refine ⟨Z', ρ', F', e', o'.imp (fun ds ρ2 q vs Z2 H2 F2 g p => ?_) fun _ _ q => q⟩
  obtain ⟨v0', hv', q⟩ := q vs Z2 H2 F2 g p
  rw [hv] at hv'
  cases hv'
  exact q
end
end Pd

set_option Elab.async false
set_option linter.all false
set_option maxRecDepth 100000
set_option maxHeartbeats 2000000
/-! PdL: what a for walks. -/
namespace Pd
open PySem PySem.Spec PyProof.Rows L2
/-- an iterator hands out these items; b: it looks at what may be changed -/
def IterOk (G : Gx) (J : It) (items : List D) (b : Bool) (Z0 H0 : Hp) : Prop := ∃ (Gd : Hp → Prop) (Y : Nat → Hp → V → Hp → Prop), Walk J items.length Gd Y ∧
  ∀ Z H, L2.Same Z0 Z → Sub Z H → (b = false ∨ L2.Same H0 H) → Gd H ∧ ∀ i x H', i < items.length → Y i H x H' → ∃ Z' d, Fr Z H Z' H' ∧ items[i]? = some d ∧ Rep G Z' H' d x []
theorem PI.or {X : Cx} {tg it : Expr} {t u : TI} (h : PI X tg it t) (k : PI X tg it u) : PI X tg it (fun σ H R => t σ H R ∨ u σ H R) := ⟨fun pins s σ H R I q => q.elim (h.run pins s σ H R I) (k.run pins s σ H R I)⟩
theorem PI.imp {X : Cx} {tg it : Expr} {t u : TI} (h : PI X tg it t) (k : ∀ σ H R, u σ H R → t σ H R) : PI X tg it u := ⟨fun pins s σ H R I q => h.run pins s σ H R I (k _ _ _ q)⟩
section
variable {G : Gx} {c : Ck} {lv : Nat} {ex : Option (Nat × V)} {W : WX} {X : Cx} {T : Tab}
theorem stills_mem : ∀ {ds : List D}, stills ds = true → ∀ d ∈ ds, still d = true
  | [], _, d, h => nomatch h
  | e :: ds, hs, d, h => by
    obtain ⟨h1, h2⟩ := andB hs
    rcases List.mem_cons.mp h with rfl | h
    · exact h1
    · exact stills_mem h2 d h
/-- a list, a tuple as it stands -/
def SrcS (G : Gx) (b : Bool) (vs : List V) (items : List D) (a : Addr) : Hp → Hp → Prop := fun Z H => (if b = true then H a = some (.lst vs) else Rd Z a (.lst vs)) ∧ Reps G Z H items vs []
theorem SrcS.keep {b : Bool} {vs : List V} {items : List D} {a : Addr} {Z H Z' H' : Hp} (h : SrcS G b vs items a Z H) (zz : L2.Same Z Z') (hh : b = false ∨ L2.Same H H') : SrcS G b vs items a Z' H' := by
  refine ⟨?_, Reps.mono zz items vs [] (fun _ q => nomatch q) h.2⟩
  have h1 := h.1
  cases b with
  | false => exact rd_mono zz h1
  | true => exact (hh.resolve_left (fun q => nomatch q)) a _ h1
theorem SrcS.sq {b : Bool} {vs : List V} {items : List D} {a : Addr} {Z H : Hp} (h : SrcS G b vs items a Z H) (s : Sub Z H) : SqL G.K H a vs := by
  have h1 := h.1
  cases b with
  | false => exact .inl (rd_up s h1)
  | true => exact .inl (.inl h1)
def SrcT (G : Gx) (vs : List V) (items : List D) (a : Addr) : Hp → Hp → Prop := fun Z H => Z a = some (.tup vs) ∧ Reps G Z H items vs []
theorem SrcT.keep {vs : List V} {items : List D} {a : Addr} {Z H Z' H' : Hp} (h : SrcT G vs items a Z H) (zz : L2.Same Z Z') : SrcT G vs items a Z' H' := ⟨zz _ _ h.1, Reps.mono zz items vs [] (fun _ q => nomatch q) h.2⟩
theorem SrcT.sq {vs : List V} {items : List D} {a : Addr} {Z H : Hp} (h : SrcT G vs items a Z H) (s : Sub Z H) : SqT G.K H a vs := SqT.up s h.1
theorem reps_item {Z H : Hp} {items : List D} {vs : List V} {i : Nat} {x : V} (r : Reps G Z H items vs []) (h : vs[i]? = some x) : ∃ d, items[i]? = some d ∧ Rep G Z H d x [] := by
  have hl : i < items.length := by
    rw [← reps_len r]
    exact (List.getElem?_eq_some_iff.mp h).1
  obtain ⟨v, g, h1, h2, h3, _⟩ := reps_get r (List.getElem?_eq_getElem hl)
  rw [h] at h1
  cases h1
  have hg : g = [] := List.eq_nil_iff_forall_not_mem.mpr fun a ha => nomatch h3 a ha
  subst hg
  exact ⟨_, List.getElem?_eq_getElem hl, h2⟩
/-- what stands behind a list or a tuple that is walked -/
theorem src_list {Z H : Hp} {d : D} {v : V} {f : List Addr} {items : List D} (h : lstI d = some items) (hs : stills items = true) (r : Rep G Z H d v f) : ∃ a vs, v = .ref a ∧ SrcS G (!still d) vs items a Z H := by
  cases d with
  | lst xs =>
    cases h
    obtain ⟨a, vs, e, s, r, q⟩ := r
    refine ⟨a, vs, e, ?_, r⟩
    have hst : still (.lst items) = true := hs
    rw [hst]
    exact s
  | mls xs =>
    cases h
    obtain ⟨a, vs, g, e, s, z, r, q⟩ := r
    exact ⟨a, vs, e, s, r.keep (L2.Same.refl _) hs⟩
  | _ => cases h
theorem src_tup {Z H : Hp} {v : V} {f : List Addr} {items : List D} (hs : stills items = true) (r : Rep G Z H (.tup items) v f) : ∃ a vs, v = .ref a ∧ SrcT G vs items a Z H := by
  obtain ⟨a, vs, e, s, r⟩ := r
  exact ⟨a, vs, e, s, r.keep (L2.Same.refl _) hs⟩
/-! ### the kinds -/
theorem iter_list {Z H : Hp} {b : Bool} {vs : List V} {items : List D} {a : Addr} (s : Sub Z H) (h : SrcS G b vs items a Z H) : IterOk G (Itl G.K a) items b Z H := by
  refine ⟨_, _, by rw [← reps_len h.2]; exact walk_list (xs := vs), fun Z H zz sb hh => ⟨(h.keep zz hh).sq sb, fun i x H' hi y => ?_⟩⟩
  obtain ⟨rfl, hx⟩ := y
  obtain ⟨d, hd, r⟩ := reps_item (h.keep zz hh).2 hx
  exact ⟨Z, d, Fr.refl sb, hd, r⟩
theorem iter_tup {Z H : Hp} {b : Bool} {vs : List V} {items : List D} {a : Addr} (s : Sub Z H) (h : SrcT G vs items a Z H) : IterOk G (Itt G.K a) items b Z H := by
  refine ⟨_, _, by rw [← reps_len h.2]; exact walk_tup (xs := vs), fun Z H zz sb hh => ⟨(h.keep (H' := H) zz).sq sb, fun i x H' hi y => ?_⟩⟩
  obtain ⟨rfl, hx⟩ := y
  obtain ⟨d, hd, r⟩ := reps_item (h.keep (H' := H') zz).2 hx
  exact ⟨Z, d, Fr.refl sb, hd, r⟩
theorem iter_str {Z H : Hp} {b : Bool} {z : Str} : IterOk G (Its z) (charsOf z) b Z H := by
  have hl : (charsOf z).length = z.cps.size := by simp [charsOf]
  refine ⟨_, _, by rw [hl]; exact walk_str, fun Z H _ sb _ => ⟨trivial, fun i x H' hi y => ?_⟩⟩
  obtain ⟨rfl, cc, hc, rfl⟩ := y
  exact ⟨Z, .str ⟨#[cc]⟩, Fr.refl sb, by simp [charsOf, hc], rfl, rfl⟩
theorem iter_range {Z H : Hp} {b : Bool} {i j : Int} : IterOk G (Itr i (j - i).toNat) (ivl i j) b Z H := by
  have hl : (ivl i j).length = (j - i).toNat := by simp [ivl]
  refine ⟨_, _, by rw [hl]; exact walk_range, fun Z H _ sb _ => ⟨trivial, fun k x H' hi y => ?_⟩⟩
  obtain ⟨rfl, rfl⟩ := y
  rw [hl] at hi
  exact ⟨Z, .int (i + (k : Nat)), Fr.refl sb, by simp [ivl, hi], rfl, rfl⟩
/-- a new pair -/
theorem new_pair {Z H : Hp} {T : Addr} {x y : V} {d e : D} (s : Sub Z H) (hT : H T = none) (rx : Rep G Z H d x []) (ry : Rep G Z H e y []) : ∃ Z', Fr Z H Z' (upd H T (.tup [x, y])) ∧ Rep G Z' (upd H T (.tup [x, y])) (.tup [d, e]) (.ref T) [] := by
  obtain ⟨fr, r⟩ := new_tup (f := []) s (ds := [d, e]) (vs := [x, y]) ⟨x, [y], [], [], rfl, rx, ⟨y, [], [], [], rfl, ry, ⟨rfl, rfl⟩, rfl⟩, rfl⟩ hT
  exact ⟨_, fr, r⟩
theorem enum_at : ∀ (ds : List D) (n i : Nat) (d : D), ds[i]? = some d → (enumFrom n ds)[i]? = some (.tup [.int ((n + i : Nat) : Int), d])
  | [], n, i, d, h => by simp at h
  | e :: ds, n, 0, d, h => by simp at h; subst h; simp [enumFrom]
  | e :: ds, n, i + 1, d, h => by
    have := enum_at ds (n + 1) i d (by simpa using h)
    rw [enumFrom]
    simp only [List.getElem?_cons_succ]
    rw [this]
    have e1 : n + 1 + i = n + (i + 1) := by omega
    rw [e1]
theorem enum_len : ∀ (ds : List D) (n : Nat), (enumFrom n ds).length = ds.length
  | [], _ => rfl
  | d :: ds, n => congrArg (· + 1) (enum_len ds (n + 1))
theorem iter_enum {Z H : Hp} {b : Bool} {vs : List V} {items : List D} {a : Addr} (s : Sub Z H) (h : SrcS G b vs items a Z H) : IterOk G (Ite G.K a) (enumFrom 0 items) b Z H := by
  refine ⟨_, _, by rw [enum_len, ← reps_len h.2]; exact walk_enum (xs := vs), fun Z H zz sb hh => ⟨(h.keep zz hh).sq sb, fun i x H' hi y => ?_⟩⟩
  obtain ⟨T, x0, y0, rfl, hT, rfl, h1, h2⟩ := y
  have h1 : some (V.int (i : Nat)) = some x0 := h1
  cases h1
  obtain ⟨d, hd, r⟩ := reps_item (h.keep zz hh).2 h2
  obtain ⟨Z', fr, r'⟩ := new_pair (d := .int ((0 + i : Nat) : Int)) sb hT ⟨by rw [Nat.zero_add], rfl⟩ r
  exact ⟨Z', _, fr, enum_at items 0 i d hd, r'⟩
theorem iter_enumT {Z H : Hp} {b : Bool} {vs : List V} {items : List D} {a : Addr} (s : Sub Z H) (h : SrcT G vs items a Z H) : IterOk G (IteT G.K a) (enumFrom 0 items) b Z H := by
  refine ⟨_, _, by rw [enum_len, ← reps_len h.2]; exact walk_enumT (xs := vs), fun Z H zz sb hh => ⟨(h.keep (H' := H) zz).sq sb, fun i x H' hi y => ?_⟩⟩
  obtain ⟨T, x0, y0, rfl, hT, rfl, h1, h2⟩ := y
  have h1 : some (V.int (i : Nat)) = some x0 := h1
  cases h1
  obtain ⟨d, hd, r⟩ := reps_item (h.keep (H' := H) zz).2 h2
  obtain ⟨Z', fr, r'⟩ := new_pair (d := .int ((0 + i : Nat) : Int)) sb hT ⟨by rw [Nat.zero_add], rfl⟩ r
  exact ⟨Z', _, fr, enum_at items 0 i d hd, r'⟩
theorem pairs_at {xs ys : List D} {i : Nat} {d e : D} (h : xs[i]? = some d) (h' : ys[i]? = some e) : (pairsD xs ys)[i]? = some (.tup [d, e]) := by
  simp [pairsD, List.getElem?_zipWith, h, h']
theorem pairs_len {xs ys : List D} : (pairsD xs ys).length = min xs.length ys.length := by simp [pairsD]
theorem iter_zip {Z H : Hp} {b b' : Bool} {vs ws : List V} {xs ys : List D} {a a' : Addr} (s : Sub Z H) (h : SrcS G b vs xs a Z H) (h' : SrcS G b' ws ys a' Z H) : IterOk G (Itz G.K a a') (pairsD xs ys) (b || b') Z H := by
  refine ⟨_, _, walk_zip (xs := vs) (ys := ws) (by rw [pairs_len, reps_len h.2, reps_len h'.2]), fun Z H zz sb hh => ?_⟩
  have k1 := h.keep zz (hh.imp_left fun q => (bor_false q).1)
  have k2 := h'.keep zz (hh.imp_left fun q => (bor_false q).2)
  refine ⟨⟨k1.sq sb, k2.sq sb⟩, fun i x H' hi y => ?_⟩
  obtain ⟨T, x0, y0, rfl, hT, rfl, h1, h2⟩ := y
  obtain ⟨d, hd, r⟩ := reps_item k1.2 h1
  obtain ⟨e, he, r2⟩ := reps_item k2.2 h2
  obtain ⟨Z', fr, r'⟩ := new_pair sb hT r r2
  exact ⟨Z', _, fr, pairs_at hd he, r'⟩
def SrcB (t : Bool) (G : Gx) (b : Bool) (vs : List V) (items : List D) (a : Addr) (Z H : Hp) : Prop := match t with
  | true => SrcT G vs items a Z H
  | false => SrcS G b vs items a Z H
theorem SrcB.keep {t b : Bool} {vs : List V} {items : List D} {a : Addr} {Z H Z' H' : Hp} (h : SrcB t G b vs items a Z H) (zz : L2.Same Z Z') (hh : b = false ∨ L2.Same H H') : SrcB t G b vs items a Z' H' := by
  cases t with
  | true => exact SrcT.keep (H' := H') h zz
  | false => exact SrcS.keep h zz hh
theorem SrcB.sq {t b : Bool} {vs : List V} {items : List D} {a : Addr} {Z H : Hp} (h : SrcB t G b vs items a Z H) (s : Sub Z H) : SqB t G.K H a vs := by
  cases t with
  | true => exact SrcT.sq h s
  | false => exact SrcS.sq h s
theorem SrcB.reps {t b : Bool} {vs : List V} {items : List D} {a : Addr} {Z H : Hp} (h : SrcB t G b vs items a Z H) : Reps G Z H items vs [] := by
  cases t with
  | true => exact h.2
  | false => exact h.2
theorem src_seq {Z H : Hp} {d : D} {v : V} {f : List Addr} {items : List D} (h : seqI d = some items) (hs : stills items = true) (r : Rep G Z H d v f) : ∃ t a vs, v = .ref a ∧ SrcB t G (!still d) vs items a Z H := by
  cases d with
  | tup xs =>
    cases h
    obtain ⟨a, vs, e, k⟩ := src_tup hs r
    exact ⟨true, a, vs, e, k⟩
  | lst xs => obtain ⟨a, vs, e, k⟩ := src_list (d := .lst xs) (show lstI (.lst xs) = some items from h) hs r; exact ⟨false, a, vs, e, k⟩
  | mls xs => obtain ⟨a, vs, e, k⟩ := src_list (d := .mls xs) (show lstI (.mls xs) = some items from h) hs r; exact ⟨false, a, vs, e, k⟩
  | _ => cases h
theorem iter_zipB {Z H : Hp} {t u b b' : Bool} {vs ws : List V} {xs ys : List D} {a a' : Addr} (s : Sub Z H) (h : SrcB t G b vs xs a Z H) (h' : SrcB u G b' ws ys a' Z H) : IterOk G (ItzB t u G.K a a') (pairsD xs ys) (b || b') Z H := by
  refine ⟨_, _, walk_zipB (xs := vs) (ys := ws) (by rw [pairs_len, reps_len h.reps, reps_len h'.reps]), fun Z H zz sb hh => ?_⟩
  have k1 := h.keep zz (hh.imp_left fun q => (bor_false q).1)
  have k2 := h'.keep zz (hh.imp_left fun q => (bor_false q).2)
  refine ⟨⟨k1.sq sb, k2.sq sb⟩, fun i x H' hi y => ?_⟩
  obtain ⟨T, x0, y0, rfl, hT, rfl, h1, h2⟩ := y
  obtain ⟨d, hd, r⟩ := reps_item k1.reps h1
  obtain ⟨e, he, r2⟩ := reps_item k2.reps h2
  obtain ⟨Z', fr, r'⟩ := new_pair sb hT r r2
  exact ⟨Z', _, fr, pairs_at hd he, r'⟩
theorem IterOk.wk {J : It} {items : List D} {b b' : Bool} {Z H : Hp} (h : IterOk G J items b Z H) (hb : b' = false → b = false) : IterOk G J items b' Z H := by
  obtain ⟨Gd, Y, h1, h2⟩ := h
  exact ⟨Gd, Y, h1, fun Z H zz s hh => h2 Z H zz s (hh.imp_left hb)⟩
/-- the reading of an iterable: its operands, then an iterator -/
def tIt (G : Gx) (ex : Option (Nat × V)) (W : WX) (T : Tab) (k : IK) (es : List E) : TI := fun σ H R => ∃ Z ρ F, EnvR G ex Z H σ ρ F ∧
  Okk (evEs T anyD es ρ) (fun ds ρ1 => ∃ items, iterD k ds = some items ∧ stills items = true ∧ ∀ Z1 H1 F1 J, EnvR G ex Z1 H1 σ ρ1 F1 → (purs es = true → F1 = F) → Ext (quiets es) Z H (InF F) Z1 H1 (InF F1) → IterOk G J items (!stills ds) Z1 H1 → R J H1) (KX G ex W (quiets es) Z H σ F)
theorem it1 {k : IK} {e : E} {pl : Bool} {σ : L2.St} {H : Hp} {R : It → Hp → Prop} (h : tIt G ex W T k [e] σ H R) : ∃ Z ρ F, EnvR G ex Z H σ ρ F ∧ Okk (evE T e ρ) (fun d ρ1 => ∃ items, iterD k [d] = some items ∧ stills items = true ∧ ∀ v Z1 H1 F1 f, EPost G ex (pur e) (quiet e) pl Z H σ F d ρ1 v Z1 H1 F1 f → ∀ J, IterOk G J items (!still d) Z1 H1 → R J H1) (KX G ex W (quiet e) Z H σ F) := by
  obtain ⟨Z, ρ, F, env, ok⟩ := h
  have e1 : evEs T anyD [e] ρ = (evE T e ρ).bind fun d ρ1 => if (!anyD d || (!still d && !purs [])) = true then .stk else (evEs T anyD [] ρ1).bind fun ds ρ2 => .ok (d :: ds) ρ2 := by rw [evEs]
  rw [e1] at ok
  refine ⟨Z, ρ, F, env, (Okk.bind ok).imp (fun d ρ1 ok1 => ?_) fun x ρ' kx cls dx Z' H' F' xp => kx cls dx Z' H' F' ⟨xp.env, xp.ext.wk fun q => (andB q).1, xp.is⟩⟩
  obtain ⟨_, ok2⟩ := Okk.ite ok1
  rw [evEs] at ok2
  obtain ⟨items, h1, h2, h3⟩ := ok2
  refine ⟨items, h1, h2, fun v Z1 H1 F1 f p J hj => h3 Z1 H1 F1 J p.env (fun q => p.pur (andB q).1) ((p.ext.imp fun a ha => .inl ha).wk fun q => (andB q).1) ?_⟩
  have e2 : (!stills [d]) = !still d := by
    show (!(still d && true)) = _
    rw [Bool.and_true]
  rw [e2]
  exact hj
/-- the operands of an iterable by their values -/
def KIt (G : Gx) (k : IK) (R : It → Hp → Prop) (vs : List V) (H1 : Hp) : Prop := ∃ Z ds fp items, Sub Z H1 ∧ Reps G Z H1 ds vs fp ∧ iterD k ds = some items ∧ stills items = true ∧ ∀ J, IterOk G J items (!stills ds) Z H1 → R J H1
theorem it_core {k : IK} {es : List E} {σ : L2.St} {H : Hp} {R : It → Hp → Prop} (h : tIt G ex W T k es σ H R) : tEs G ex W (purs es) (quiets es) (evEs T anyD es) σ H fun vs H1 => KIt G k R vs H1 := by
  obtain ⟨Z, ρ, F, env, ok⟩ := h
  exact ⟨Z, ρ, F, env, ok.imp (fun ds ρ1 ⟨items, h1, h2, h3⟩ vs Z1 H1 F1 fp p => ⟨Z1, ds, fp, items, p.env.sub, p.reps, h1, h2, fun J hj => h3 Z1 H1 F1 J p.env p.pur p.ext hj⟩) fun _ _ q => q⟩
theorem pi_seq (hK : X.K = G.K) {e : E} {tg x : Expr} (hx : PE X x (tEE G ex W T e)) : PI X tg x (tIt G ex W T .seq [e]) := by
  refine PI.imp (PI.or (pi_list hx) (PI.or (pi_tup hx) (pi_str hx))) fun σ H R h => ?_
  obtain ⟨Z, ρ, F, env, ok⟩ := it1 (pl := isPlace e) h
  cases he : evE T e ρ with
  | stk => rw [he] at ok; exact ok.elim
  | exn x ρ1 =>
    rw [he] at ok
    refine .inl ⟨Z, ρ, F, env, ?_⟩
    rw [he]
    exact ok
  | ok d ρ1 =>
    rw [he] at ok
    obtain ⟨items, h1, h2, h3⟩ := ok
    have h1 : seqD d = some items := h1
    have ls : lstI d = some items → iList X.K (tEE G ex W T e) σ H R := fun q => by
      refine ⟨Z, ρ, F, env, ?_⟩
      rw [he]
      intro v Z1 H1 F1 f p
      obtain ⟨a, vs, e1, s⟩ := src_list q h2 p.rep
      rw [hK]
      exact ⟨a, e1, ⟨vs, s.sq p.env.sub⟩, h3 v Z1 H1 F1 f p _ (iter_list p.env.sub s)⟩
    cases d with
    | tup xs =>
      cases h1
      refine .inr (.inl ⟨Z, ρ, F, env, ?_⟩)
      rw [he]
      intro v Z1 H1 F1 f p
      obtain ⟨a, vs, e1, s⟩ := src_tup h2 p.rep
      rw [hK]
      exact ⟨a, e1, ⟨vs, s.sq p.env.sub⟩, h3 v Z1 H1 F1 f p _ (iter_tup p.env.sub s)⟩
    | str z =>
      cases h1
      refine .inr (.inr ⟨Z, ρ, F, env, ?_⟩)
      rw [he]
      intro v Z1 H1 F1 f p
      exact ⟨z, p.rep.1, h3 v Z1 H1 F1 f p _ iter_str⟩
    | lst xs => exact .inl (ls h1)
    | mls xs => exact .inl (ls h1)
    | _ => cases h1
theorem pi_enumS (hX : XOk G c lv ex W X) {e : E} {elts : List Expr} {kk : Nat} {tpos p pos : Pos} {x : Expr} (hg : Gl X "enumerate") (hx : PE X x (tEE G ex W T e)) (p1 : plainX x = true) : PI X (.Tuple elts kk tpos) (.Call (.Name "enumerate" p) [x] [] pos) (tIt G ex W T .enum [e]) := by
  have hs : starEach [x] X.env = [(false, eval x X.env)] := star_eq p1 [] X.env
  refine PI.imp (PI.or (pi_enum hg (blt_ok hX (by decide)) (pa_cons hx pa_nil (star_eq p1 _ _)) hs) (pi_enumT hg (blt_ok hX (by decide)) (pa_cons hx pa_nil (star_eq p1 _ _)) hs)) fun σ H R h => ?_
  have hK := hX.K
  obtain ⟨Z, ρ, F, env, ok⟩ := it1 (pl := isPlace e) h
  cases he : evE T e ρ with
  | stk => rw [he] at ok; exact ok.elim
  | exn x ρ1 =>
    rw [he] at ok
    refine .inl ⟨Z, ρ, F, env, ?_⟩
    rw [he]
    exact ok
  | ok d ρ1 =>
    rw [he] at ok
    obtain ⟨items, h1, h2, h3⟩ := ok
    obtain ⟨xs, hd, h1⟩ := bind_some (show (itemsOf d).bind (fun xs => if stills xs = true then some (enumFrom 0 xs) else none) = some items from h1)
    obtain ⟨s1, rfl⟩ := if_some h1
    have ls : lstI d = some xs → iEnum X.K (tCons (tEE G ex W T e) tNil) σ H R := fun q => by
      refine ⟨Z, ρ, F, env, ?_⟩
      rw [he]
      intro v Z1 H1 F1 f p
      obtain ⟨a, vs, e1, s⟩ := src_list q s1 p.rep
      rw [hK]
      exact ⟨a, vs, by rw [e1], s.sq p.env.sub, h3 v Z1 H1 F1 f p _ (iter_enum p.env.sub s)⟩
    cases d with
    | tup ys =>
      cases hd
      refine .inr ⟨Z, ρ, F, env, ?_⟩
      rw [he]
      intro v Z1 H1 F1 f p
      obtain ⟨a, vs, e1, s⟩ := src_tup s1 p.rep
      rw [hK]
      exact ⟨a, vs, by rw [e1], s.sq p.env.sub, h3 v Z1 H1 F1 f p _ (iter_enumT p.env.sub s)⟩
    | lst ys => exact .inl (ls hd)
    | mls ys => exact .inl (ls hd)
    | _ => cases hd
theorem rngOk_b {i : Int} (h : rngOk i = true) : -(2 ^ 62) ≤ i ∧ i < 2 ^ 62 := of_decide_eq_true h
/-- the operands' texts of an iterable -/
def iterX (c : Ck) (k : IK) (tg x : Expr) : Option (List Expr) := match k with
  | .seq => some [x]
  | .rng1 => call1 c "range" x
  | .rng2 => call2 c "range" x
  | .zip => (match tg with | .Tuple _ _ _ => call2 c "zip" x | _ => none)
  | .enum => (match tg with | .Tuple _ _ _ => call1 c "enumerate" x | _ => none)
  | _ => none
theorem call1_inv {nm : Str} {x : Expr} {xs : List Expr} (h : call1 c nm x = some xs) : ∃ p a pos, x = .Call (.Name nm p) [a] [] pos ∧ xs = [a] ∧ glB c.sc nm = true := by
  unfold call1 at h
  split at h
  · obtain ⟨ho, rfl⟩ := if_some h
    obtain ⟨ho, hg⟩ := andB ho
    have ho := of_decide_eq_true ho
    subst ho
    exact ⟨_, _, _, rfl, rfl, hg⟩
  · cases h
theorem call2_inv {nm : Str} {x : Expr} {xs : List Expr} (h : call2 c nm x = some xs) : ∃ p a b pos, x = .Call (.Name nm p) [a, b] [] pos ∧ xs = [a, b] ∧ glB c.sc nm = true := by
  unfold call2 at h
  split at h
  · obtain ⟨ho, rfl⟩ := if_some h
    obtain ⟨ho, hg⟩ := andB ho
    have ho := of_decide_eq_true ho
    subst ho
    exact ⟨_, _, _, _, rfl, rfl, hg⟩
  · cases h
theorem star1 {a : Expr} {env : PySem.Env} (h : plainX a = true) : starEach [a] env = [(false, eval a env)] := star_eq h [] env
theorem pi_sound (hX : XOk G c lv ex W X) {k : IK} {es : List E} {xs : List Expr} {tg x : Expr} (hx : iterX c k tg x = some xs) (hl : AllE G ex W T X es xs) : PI X tg x (tIt G ex W T k es) := by
  have hK := hX.K
  cases k with
  | seq =>
    cases (show some [x] = some xs from hx)
    obtain ⟨e, rfl, h1, _⟩ := hl.one
    exact pi_seq hK h1
  | rng1 =>
    obtain ⟨p, a, pos, rfl, rfl, hg⟩ := call1_inv hx
    obtain ⟨g1, _, _⟩ := glB_ok hX hg
    obtain ⟨e, rfl, h1, p1⟩ := hl.one
    refine PI.imp (pi_range1 g1 (blt_ok hX (by decide)) (AllE.pa (k := anyD) hl) (star1 p1)) fun σ H R h => tEs_imp (it_core h) fun vs H1 ⟨Z, ds, fp, items, sb, r, h1, h2, h3⟩ => ?_
    cases ds with
    | nil => cases h1
    | cons d ds =>
      cases ds with
      | cons _ _ => cases d <;> cases h1
      | nil =>
        cases d with
        | int j =>
          obtain ⟨h4, rfl⟩ := if_some (show (if rngOk j = true then some (ivl 0 j) else none) = some items from h1)
          obtain ⟨v, f, rfl, rv⟩ := un1 (ds := []) r
          obtain ⟨b1, b2⟩ := rngOk_b h4
          refine ⟨j, by rw [rv.1], b1, b2, h3 _ ?_⟩
          have := iter_range (G := G) (Z := Z) (H := H1) (b := !stills [.int j]) (i := 0) (j := j)
          rw [Int.sub_zero] at this
          exact this
        | _ => cases h1
  | rng2 =>
    obtain ⟨p, a, b, pos, rfl, rfl, hg⟩ := call2_inv hx
    obtain ⟨g1, _, _⟩ := glB_ok hX hg
    obtain ⟨e, e', rfl, ⟨h1, p1⟩, h2, p2⟩ := hl.two
    refine PI.imp (pi_range2 g1 (blt_ok hX (by decide)) (AllE.pa (k := anyD) hl) (by rw [star_eq p1, star1 p2]) (star1 p2)) fun σ H R h => tEs_imp (it_core h) fun vs H1 ⟨Z, ds, fp, items, sb, r, h1, h2, h3⟩ => ?_
    cases ds with
    | nil => cases h1
    | cons d ds =>
      cases ds with
      | nil => cases d <;> cases h1
      | cons d' ds =>
        cases ds with
        | cons _ _ => cases d <;> cases d' <;> cases h1
        | nil =>
          cases d with
          | int i =>
            cases d' with
            | int j =>
              obtain ⟨h4, rfl⟩ := if_some (show (if rngOk i = true ∧ rngOk j = true then some (ivl i j) else none) = some items from h1)
              obtain ⟨v, w, f, g, rfl, rv, rw'⟩ := un2 r
              obtain ⟨b1, b2⟩ := rngOk_b h4.1
              obtain ⟨b3, b4⟩ := rngOk_b h4.2
              exact ⟨i, j, by rw [rv.1, rw'.1], ⟨b1, b2, b3, b4⟩, h3 _ iter_range⟩
            | _ => cases h1
          | _ => cases h1
  | zip =>
    cases tg with
    | Tuple elts kk tpos =>
      obtain ⟨p, a, b, pos, rfl, rfl, hg⟩ := call2_inv hx
      obtain ⟨g1, _, _⟩ := glB_ok hX hg
      obtain ⟨e, e', rfl, ⟨h1, p1⟩, h2, p2⟩ := hl.two
      refine PI.imp (pi_zipB g1 (blt_ok hX (by decide)) (AllE.pa (k := anyD) hl) (star_eq p1 _ _) (back_plain _ (es := [b]) (Bool.and_eq_true_iff.mpr ⟨p2, rfl⟩))) fun σ H R h => tEs_imp (it_core h) fun vs H1 ⟨Z, ds, fp, items, sb, r, h1, h2, h3⟩ => ?_
      rw [hK]
      obtain ⟨d, d', rfl⟩ : ∃ d d', ds = [d, d'] := by
        cases ds with
        | nil => cases h1
        | cons d ds =>
          cases ds with
          | nil => cases h1
          | cons d' ds =>
            cases ds with
            | cons _ _ => cases h1
            | nil => exact ⟨d, d', rfl⟩
      obtain ⟨v, w, f, g, rfl, rv, rw'⟩ := un2 r
      replace h1 : zipI d d' = some items := h1
      unfold zipI at h1
      split at h1
      · rename_i xs ys e1 e2
        obtain ⟨⟨s1, s2⟩, rfl⟩ := if_some h1
        obtain ⟨t, a1, vs1, q1, k1⟩ := src_seq e1 s1 rv
        obtain ⟨u, a2, vs2, q2, k2⟩ := src_seq e2 s2 rw'
        refine ⟨t, u, a1, a2, vs1, vs2, by rw [q1, q2], k1.sq sb, k2.sq sb, h3 _ ((iter_zipB sb k1 k2).wk fun q => ?_)⟩
        have q' : (!(still d && (still d' && true))) = false := q
        revert q'
        cases still d <;> cases still d' <;> simp
      · cases h1
    | _ => cases hx
  | enum =>
    cases tg with
    | Tuple elts kk tpos =>
      obtain ⟨p, a, pos, rfl, rfl, hg⟩ := call1_inv hx
      obtain ⟨g1, _, _⟩ := glB_ok hX hg
      obtain ⟨e, rfl, h1, p1⟩ := hl.one
      exact pi_enumS hX g1 h1 p1
    | _ => cases hx
  | _ => cases hx
end
end Pd

set_option Elab.async false
set_option linter.all false
set_option maxRecDepth 100000
set_option maxHeartbeats 2000000
/-! PdM: targets, comprehensions. -/
namespace Pd
open PySem PySem.Spec PyProof.Rows L2
mutual
/-- a target's look -/
def tgB (c : Ck) : Tg → Expr → Bool
  | .var i, .Name x _ => stB c i x && !decide (c.exi = some i)
  | .tup ts, .Tuple es _ _ => !c.hot && tgBs c ts es
  | _, _ => false
def tgBs (c : Ck) : List Tg → List Expr → Bool
  | [], [] => true
  | t :: ts, e :: es => tgB c t e && tgBs c ts es
  | _, _ => false
end
def tG (G : Gx) (ex : Option (Nat × V)) (t : Tg) : TG := fun v σ H Q => ∃ Z ρ F d f ρ', EnvR G ex Z H σ ρ F ∧ Rep G Z H d v f ∧ f.Nodup ∧ (∀ a ∈ f, ¬ InF F a) ∧ asg t d ρ = some ρ' ∧
  ∀ σ' F', EnvR G ex Z H σ' ρ' F' → (∀ a, InF F' a → InF F a ∨ a ∈ f) → σ'.length = σ.length → (∀ i, i ∉ tgSl t → σ'[i]? = σ[i]?) → Q σ' H
def tGs (G : Gx) (ex : Option (Nat × V)) (ts : List Tg) : TGs := fun vs σ H Q => ∃ Z ρ F ds f ρ', EnvR G ex Z H σ ρ F ∧ Reps G Z H ds vs f ∧ f.Nodup ∧ (∀ a ∈ f, ¬ InF F a) ∧ asgs ts ds ρ = some ρ' ∧
  ∀ σ' F', EnvR G ex Z H σ' ρ' F' → (∀ a, InF F' a → InF F a ∨ a ∈ f) → σ'.length = σ.length → (∀ i, i ∉ tgSls ts → σ'[i]? = σ[i]?) → Q σ' H
section
variable {G : Gx} {c : Ck} {lv : Nat} {ex : Option (Nat × V)} {W : WX} {X : Cx} {T : Tab}
theorem PG.imp {X : Cx} {e : Expr} {t u : TG} (h : PG X e t) (k : ∀ v σ H Q, u v σ H Q → t v σ H Q) : PG X e u := ⟨fun pins s σ H v w Q I r q => h.run pins s σ H v w Q I r (k v σ H Q q)⟩
theorem PGs.imp {X : Cx} {e : List Expr} {t u : TGs} (h : PGs X e t) (k : ∀ v σ H Q, u v σ H Q → t v σ H Q) : PGs X e u := ⟨fun pins s σ H v w Q I r q => h.run pins s σ H v w Q I r (k v σ H Q q)⟩
theorem stB_ok (hX : XOk G c lv ex W X) {i : Nat} {x : Str} (h : stB c i x = true) : X.N[i]? = some x ∧ L2.Loc X.env.scope x ∧ (X.fn x = true ∨ X.env.scope.names.lookup x = some .local) := by
  obtain ⟨h1, h2⟩ := andB h
  obtain ⟨h2, h3⟩ := andB h2
  exact ⟨by rw [hX.N]; exact of_decide_eq_true h1, by rw [hX.sc]; exact locB_ok h2, hX.st x h3 h2⟩
theorem XOk.ndN (hX : XOk G c lv ex W X) : X.N.Nodup := by rw [hX.N]; exact hX.nd
theorem tgB_plain {t : Tg} {e : Expr} (h : tgB c t e = true) : ∀ (es : List Expr) (env : PySem.Env), assignEach (e :: es) env = (false, assign e env) :: assignEach es env := by
  intro es env
  cases t with
  | var i => cases e <;> first | rfl | (cases h; done)
  | tup ts => cases e <;> first | rfl | (cases h; done)
theorem tgBs_len : ∀ {ts : List Tg} {es : List Expr} (env : PySem.Env), tgBs c ts es = true → (assignEach es env).length = ts.length ∧ (assignEach es env).findIdx? (·.1) = none
  | [], [], env, _ => ⟨rfl, rfl⟩
  | t :: ts, e :: es, env, h => by
    obtain ⟨h1, h2⟩ := andB h
    obtain ⟨k1, k2⟩ := tgBs_len env h2
    rw [tgB_plain h1]
    refine ⟨congrArg (· + 1) k1, ?_⟩
    rw [List.findIdx?_cons]
    simp [k2]
  | [], _ :: _, _, h => nomatch h
  | _ :: _, [], _, h => nomatch h
theorem asgs_nc {d : D} {ds : List D} {ρ : Env} : asgs [] (d :: ds) ρ = none := by
  rw [asgs] <;> simp
theorem asgs_cn {t : Tg} {ts : List Tg} {ρ : Env} : asgs (t :: ts) [] ρ = none := by
  rw [asgs] <;> simp
theorem asgs_len : ∀ {ts : List Tg} {ds : List D} {ρ ρ' : Env}, asgs ts ds ρ = some ρ' → ds.length = ts.length
  | [], [], _, _, _ => rfl
  | t :: ts, d :: ds, ρ, ρ', h => by
    rw [asgs] at h
    obtain ⟨ρ1, h1, h2⟩ := bind_some h
    exact congrArg (· + 1) (asgs_len h2)
  | [], _ :: _, _, _, h => by rw [asgs_nc] at h; cases h
  | _ :: _, [], _, _, h => by rw [asgs_cn] at h; cases h
mutual
theorem pg_sound (hX : XOk G c lv ex W X) : ∀ (t : Tg) (e : Expr), tgB c t e = true → PG X e (tG G ex t)
  | .var i, e, h => by
    cases e with
    | Name x pos =>
      obtain ⟨h1, h2⟩ := andB h
      obtain ⟨k1, k2, k3⟩ := stB_ok hX h1
      have hne : c.exi ≠ some i := by simpa using h2
      refine PG.imp (pg_name hX.ndN k1 k2 k3) fun v σ H Q ⟨Z, ρ, F, d, f, ρ', env, r, nd, hd, ha, kk⟩ => ?_
      rw [asg] at ha
      obtain ⟨hi, rfl⟩ := if_some ha
      have e1 := env.put hi (x := some d) (y := some v) (f := f) (fun d' q => by cases q; exact ⟨v, rfl, r⟩) (fun q => nomatch q) nd (fun a ha j hj q => hd a ha ⟨j, q⟩) (fun j a q e => hne (by rw [← e]; exact hX.exi j a q))
      refine kk _ _ e1 (fun a ha => ?_) (by rw [List.length_set]) fun j hj => ?_
      · rcases inF_up ha with q | ⟨j, _, q⟩
        · exact .inr q
        · exact .inl ⟨j, q⟩
      · rw [List.getElem?_set_ne (fun q => hj (by rw [← q]; exact List.mem_singleton.mpr rfl))]
    | _ => cases h
  | .tup ts, e, h => by
    cases e with
    | Tuple es kk pos =>
      obtain ⟨h1, h2⟩ := andB h
      obtain ⟨l1, l2⟩ := tgBs_len X.env h2
      have hcalm : X.calm = true := by rw [hX.calm]; exact h1
      refine PG.imp (pg_tup hcalm (pgs_sound hX ts es h2) l1 l2) fun v σ H Q ⟨Z, ρ, F, d, f, ρ', env, r, nd, hd, ha, kk⟩ => ?_
      cases d with
      | tup ds =>
        obtain ⟨a, vs, e, s, rr⟩ := r
        replace ha : asgs ts ds ρ = some ρ' := by rw [asg] at ha; exact ha
        rw [hX.K]
        refine ⟨a, vs, e, SqT.up env.sub s, by rw [reps_len rr, asgs_len ha], Z, ρ, F, ds, f, ρ', env, rr, nd, hd, ha, fun σ' F' e1 e2 e3 e4 => kk σ' F' e1 e2 e3 e4⟩
      | _ => rw [asg] at ha; cases ha; intro _ q; cases q
    | _ => cases h
theorem pgs_sound (hX : XOk G c lv ex W X) : ∀ (ts : List Tg) (es : List Expr), tgBs c ts es = true → PGs X es (tGs G ex ts)
  | [], [], _ => PGs.imp pgs_nil fun vs σ H Q ⟨Z, ρ, F, ds, f, ρ', env, r, nd, hd, ha, kk⟩ => by
    cases ds with
    | nil =>
      rw [asgs] at ha
      cases ha
      exact ⟨r.1, kk σ F env (fun a q => .inl q) rfl fun _ _ => rfl⟩
    | cons d ds => rw [asgs_nc] at ha; cases ha
  | t :: ts, e :: es, h => by
    obtain ⟨h1, h2⟩ := andB h
    refine PGs.imp (pgs_cons (pg_sound hX t e h1) (pgs_sound hX ts es h2) (by rw [tgB_plain h1]; rfl)) fun vs σ H Q ⟨Z, ρ, F, ds, f, ρ', env, r, nd, hd, ha, kk⟩ => ?_
    cases ds with
    | nil => rw [asgs_cn] at ha; cases ha
    | cons d ds =>
      obtain ⟨v, w, f1, f2, rfl, r1, r2, rfl⟩ := r
      rw [asgs] at ha
      obtain ⟨ρ1, ha1, ha2⟩ := bind_some ha
      obtain ⟨n1, n2, n3⟩ := List.nodup_append.mp nd
      refine ⟨v, w, rfl, Z, ρ, F, d, f1, ρ1, env, r1, n1, fun a ha => hd a (List.mem_append_left _ ha), ha1, fun σ1 F1 e1 s1 l1 k1 => ?_⟩
      refine ⟨Z, ρ1, F1, ds, f2, ρ', e1, r2, n2, fun a ha q => ?_, ha2, fun σ2 F2 e2 s2 l2 k2 => kk σ2 F2 e2 (fun a q => ?_) (l2.trans l1) fun i hi => ?_⟩
      · rcases s1 a q with q | q
        · exact hd a (List.mem_append_right _ ha) q
        · exact n3 a q a ha rfl
      · rcases s2 a q with q | q
        · exact (s1 a q).imp id (List.mem_append_left _)
        · exact .inr (List.mem_append_right _ q)
      · rw [tgSls] at hi
        rw [k2 i (fun q => hi (List.mem_append_right _ q)), k1 i (fun q => hi (List.mem_append_left _ q))]
  | [], _ :: _, h => nomatch h
  | _ :: _, [], h => nomatch h
end
end
end Pd

set_option Elab.async false
set_option linter.all false
set_option maxRecDepth 100000
set_option maxHeartbeats 2000000
/-! PdN: comprehensions. -/
namespace Pd
open PySem PySem.Spec PyProof.Rows L2
/-- nothing may be let out -/
def WF : WX := fun _ _ _ _ => False
theorem lookup_map {g : Str → NameKind → NameKind} {x : Str} : ∀ l : List (Str × NameKind), (l.map fun nk => (nk.1, g nk.1 nk.2)).lookup x = (l.lookup x).map (g x)
  | [] => rfl
  | (n, k) :: l => by
    rw [List.map_cons, List.lookup_cons, List.lookup_cons]
    by_cases q : (x == n) = true
    · rw [q]
      have : x = n := by simpa using q
      subst this
      rfl
    · have q' : (x == n) = false := not_true q
      rw [q']
      exact lookup_map l
theorem relS_look {scope sc : Scope} {x : Str} : (relS scope sc).names.lookup x = (scope.names.lookup x).map fun k => if (k == .free && sc.kind == .function && sc.names.lookup x == some .cell) = true then .cell else k := by
  have e : (relS scope sc).names = scope.names.map fun nk => (nk.1, (fun n k => if (k == .free && sc.kind == .function && sc.names.lookup n == some .cell) = true then NameKind.cell else k) nk.1 nk.2) := by
    unfold relS
    refine List.map_congr_left fun nk _ => ?_
    obtain ⟨n, k⟩ := nk
    show (if _ then _ else _) = _
    split
    · rename_i h; simp [h]
    · rename_i h; simp [h]
  rw [e]
  exact lookup_map (g := fun n k => if (k == .free && sc.kind == .function && sc.names.lookup n == some .cell) = true then NameKind.cell else k) _
section
variable {G : Gx} {c : Ck} {lv : Nat} {ex : Option (Nat × V)} {W : WX} {X : Cx} {T : Tab}
def Ck.blk (c : Ck) (scope : Scope) : Ck := { c with sc := relS scope c.sc, own := scope, top := false, exi := none }
theorem XOk.blk (hX : XOk G c lv ex W X) (scope : Scope) (s : Shared) (H : Hp) (C : Addr) (cl : List (Str × Addr)) (fp : List Addr) : XOk G (c.blk scope) lv none WF (X.blk s H scope (compEnvC scope cl C X.env) fp) where
  p := hX.p
  w := hX.w
  K := hX.K
  mg := hX.mg
  base := hX.base
  N := hX.N
  nd := hX.nd
  sc := by
    show relS scope X.env.scope = relS scope c.sc
    rw [hX.sc]
  st := fun x h1 h2 => by
    show (scope.names.lookup x == some .cell) = true ∨ (relS scope X.env.scope).names.lookup x = some .local
    have h1 : locB scope x = true := h1
    unfold locB at h1
    cases e : scope.names.lookup x with
    | none => rw [e] at h1; cases h1
    | some k =>
      rw [e] at h1
      cases k with
      | «local» => exact .inr (by rw [relS_look, e]; rfl)
      | cell => exact .inl rfl
      | _ => cases h1
  un := hX.un
  calm := hX.calm
  room := hX.room
  tk := fun u s' ⟨_, _, _, _, _, _, _, _, _, _, _, _, _, _, _, _, q⟩ => q.elim
  po := PassesOwn.never
  top := fun h => nomatch h
  blt := hX.blt
  exi := fun _ _ h => nomatch h
theorem folded_plain {e : Expr} (h : plainX e = true) (env : PySem.Env) (x : Value) : foldedSetIterable e env x = pure x := by
  cases e <;> first | rfl | (cases h; done)
/-! ### the slots of a block -/
theorem set_none {σ : L2.St} {i : Nat} (h : ¬ i < σ.length) {x : Option V} : σ.set i x = σ := List.set_eq_of_length_le (by omega)
theorem EnvR.wipe {Z H : Hp} {σ : L2.St} {ρ : Env} {F : Fp} (e : EnvR G ex Z H σ ρ F) : ∀ own : List Nat, ∃ F', EnvR G none Z H (L2.wipe σ own) (wipeD ρ own) F' ∧ ∀ a, InF F' a → InF F a
  | [] => ⟨F, ⟨e.len, e.at_, e.off, e.nd, e.dj, e.sub, fun _ _ q => nomatch q⟩, fun _ h => h⟩
  | i :: own => by
    obtain ⟨F', e', h⟩ := EnvR.wipe e own
    by_cases hi : i < (wipeD ρ own).length
    · refine ⟨upF F' i [], e'.put hi (x := none) (y := none) (fun d q => nomatch q) (fun _ => rfl) List.nodup_nil (fun a ha => nomatch ha) (fun j a q => nomatch q), fun a ha => ?_⟩
      rcases inF_up ha with q | ⟨j, _, q⟩
      · cases q
      · exact h a ⟨j, q⟩
    · refine ⟨F', ?_, h⟩
      show EnvR G none Z H ((L2.wipe σ own).set i none) ((wipeD ρ own).set i none) F'
      have h1 : (L2.wipe σ own).set i none = L2.wipe σ own := List.set_eq_of_length_le (Nat.le_trans (Nat.le_of_eq e'.len.symm) (by omega))
      have h2 : (wipeD ρ own).set i none = wipeD ρ own := List.set_eq_of_length_le (by omega)
      rw [h1, h2]
      exact e'
theorem wipe_at {σ : L2.St} {i : Nat} : ∀ own : List Nat, i ∉ own → (L2.wipe σ own)[i]? = σ[i]?
  | [], _ => rfl
  | j :: own, h => by
    show ((L2.wipe σ own).set j none)[i]? = _
    rw [List.getElem?_set_ne (fun q => h (by rw [q]; exact List.mem_cons_self))]
    exact wipe_at own fun q => h (List.mem_cons_of_mem _ q)
theorem wipe_in {σ : L2.St} {i : Nat} : ∀ own : List Nat, i ∈ own → (L2.wipe σ own)[i]? = if i < σ.length then some none else none
  | [], h => nomatch h
  | j :: own, h => by
    show ((L2.wipe σ own).set j none)[i]? = _
    by_cases q : j = i
    · subst q
      rw [List.getElem?_set, wipe_length]
      simp
    · rw [List.getElem?_set_ne q]
      exact wipe_in own (by rcases List.mem_cons.mp h with e | e; exact absurd e.symm q; exact e)
theorem wipe_same {σ σ' : L2.St} {own sl : List Nat} (hl : σ'.length = σ.length) (h : ∀ i, i ∉ sl → σ'[i]? = (L2.wipe σ own)[i]?) (hs : ∀ i ∈ sl, i ∈ own) : L2.wipe σ' own = L2.wipe σ own := by
  refine List.ext_getElem? fun i => ?_
  by_cases hi : i ∈ own
  · rw [wipe_in own hi, wipe_in own hi, hl]
  · rw [wipe_at own hi, h i fun q => hi (hs i q)]
theorem wipeD_at {ρ : Env} {i : Nat} : ∀ own : List Nat, i ∉ own → (wipeD ρ own)[i]? = ρ[i]?
  | [], _ => rfl
  | j :: own, h => by
    show ((wipeD ρ own).set j none)[i]? = _
    rw [List.getElem?_set_ne (fun q => h (by rw [q]; exact List.mem_cons_self))]
    exact wipeD_at own fun q => h (List.mem_cons_of_mem _ q)
theorem wipeD_len {ρ : Env} : ∀ own : List Nat, (wipeD ρ own).length = ρ.length
  | [] => rfl
  | j :: own => by
    show ((wipeD ρ own).set j none).length = _
    rw [List.length_set, wipeD_len own]
theorem wipeD_in {ρ : Env} {i : Nat} {d : D} : ∀ own : List Nat, i ∈ own → (wipeD ρ own)[i]? ≠ some (some d)
  | [], h => nomatch h
  | j :: own, h => by
    show ((wipeD ρ own).set j none)[i]? ≠ _
    by_cases q : j = i
    · subst q
      rw [List.getElem?_set]
      simp only [if_true]
      split <;> simp
    · rw [List.getElem?_set_ne q]
      exact wipeD_in own (by rcases List.mem_cons.mp h with e | e; exact absurd e.symm q; exact e)
theorem backD_at {ρ0 ρ : Env} {i : Nat} : ∀ own : List Nat, i ∉ own → (backD ρ0 ρ own)[i]? = ρ[i]?
  | [], _ => rfl
  | j :: own, h => by
    show ((backD ρ0 ρ own).set j _)[i]? = _
    rw [List.getElem?_set_ne (fun q => h (by rw [q]; exact List.mem_cons_self))]
    exact backD_at own fun q => h (List.mem_cons_of_mem _ q)
theorem backD_len {ρ0 ρ : Env} : ∀ own : List Nat, (backD ρ0 ρ own).length = ρ.length
  | [] => rfl
  | j :: own => by
    show ((backD ρ0 ρ own).set j _).length = _
    rw [List.length_set, backD_len own]
theorem backD_in {ρ0 ρ : Env} {i : Nat} {d : D} : ∀ own : List Nat, i ∈ own → (backD ρ0 ρ own)[i]? = some (some d) → ρ0[i]? = some (some d)
  | [], h, _ => nomatch h
  | j :: own, h, hd => by
    have hd : ((backD ρ0 ρ own).set j (ρ0[j]?.getD none))[i]? = some (some d) := hd
    by_cases q : j = i
    · subst q
      rw [List.getElem?_set] at hd
      simp only [if_true] at hd
      split at hd
      · have hd := Option.some.inj hd
        cases e : ρ0[j]? with
        | none => rw [e] at hd; cases hd
        | some x => rw [e] at hd; exact congrArg some hd
      · cases hd
    · rw [List.getElem?_set_ne q] at hd
      exact backD_in own (by rcases List.mem_cons.mp h with e | e; exact absurd e.symm q; exact e) hd
theorem ownOk_at {ρ : Env} : ∀ {own : List Nat}, ownOk ρ own = true → ∀ i ∈ own, ∀ d, ρ[i]? = some (some d) → still d = true
  | [], _, _, h, _, _ => nomatch h
  | j :: own, ho, i, h, d, hd => by
    have ho : ((match ρ[j]? with | some (some d) => still d | some none => true | none => false) && ownOk ρ own) = true := ho
    obtain ⟨h1, h2⟩ := andB ho
    rcases List.mem_cons.mp h with rfl | h
    · rw [hd] at h1; exact h1
    · exact ownOk_at h2 i h d hd
/-- behind the block -/
theorem EnvR.back {Z1 H1 Z H : Hp} {σ : L2.St} {ρ1 ρ : Env} {F1 F : Fp} {own : List Nat} (e1 : EnvR G ex Z1 H1 σ ρ1 F1) (e : EnvR G none Z H (L2.wipe σ own) (wipeD ρ own) F) (zz : L2.Same Z1 Z) (ho : ownOk ρ1 own = true) : EnvR G ex Z H σ (backD ρ1 ρ own) F where
  len := ((backD_len own).trans (wipeD_len own).symm).trans (e.len.trans (wipe_length σ own))
  at_ := fun i d hd => by
    by_cases hi : i ∈ own
    · have h1 := backD_in own hi hd
      obtain ⟨v, hv, r⟩ := e1.at_ i d h1
      refine ⟨v, hv, ?_⟩
      rw [e.off i fun d' q => wipeD_in own hi q]
      exact r.keep zz (ownOk_at ho i hi d h1)
    · rw [backD_at own hi, ← wipeD_at own hi] at hd
      obtain ⟨v, hv, r⟩ := e.at_ i d hd
      rw [wipe_at own hi] at hv
      exact ⟨v, hv, r⟩
  off := fun i hn => by
    by_cases hi : i ∈ own
    · exact e.off i fun d' q => wipeD_in own hi q
    · exact e.off i fun d' q => hn d' (by rw [backD_at own hi, ← wipeD_at own hi]; exact q)
  nd := e.nd
  dj := e.dj
  sub := e.sub
  exs := e1.exs
/-- what is held besides -/
theorem Ext.frame {q : Bool} {Z H Z' H' : Hp} {P P' : Addr → Prop} (x : Ext q Z H P Z' H' P') (R : Addr → Prop) : Ext q Z H (fun a => P a ∨ R a) Z' H' (fun a => P' a ∨ R a) :=
  ⟨x.zz, fun a o e h => x.fr a o e (h.imp id fun n p => n (.inl p)), fun a o e n => (x.nz a o e n).imp .inl id, fun a h => h.elim (fun p => (x.np a p).imp .inl id) fun r => .inl (.inr r)⟩
theorem Ext.upd {q : Bool} {Z1 H1 Z H : Hp} {P P' : Addr → Prop} {D : Addr} {o : HO} (x : Ext q Z1 H1 P Z H P') (hD : H1 D = none) : Ext q Z1 H1 P Z (upd H D o) P' :=
  ⟨x.zz, fun a u e h => by rw [upd_ne (ne_of_none e hD)]; exact x.fr a u e h, x.nz, x.np⟩
theorem EnvR.upd {Z H : Hp} {σ : L2.St} {ρ : Env} {F : Fp} {D : Addr} {o : HO} (e : EnvR G ex Z H σ ρ F) (hz : Z D = none) (hF : ¬ InF F D) : EnvR G ex Z (upd H D o) σ ρ F :=
  e.mono (L2.Same.refl _) (fun a ha => ⟨fun u h => by rw [upd_ne (fun q => hF (by rw [← q]; exact ha))]; exact h, (e.owned ha).1⟩) (sub_upd e.sub hz)
theorem Rep.upd {Z H : Hp} {d : D} {v : V} {f : List Addr} {D' : Addr} {o : HO} (r : Rep G Z H d v f) (h : D' ∉ f) : Rep G Z (upd H D' o) d v f :=
  Rep.mono (L2.Same.refl _) d v f (fun a ha => ⟨fun u e => by rw [upd_ne (fun q => h (by rw [← q]; exact ha))]; exact e, (rep_own r ha).1⟩) r
theorem Reps.upd {Z H : Hp} {d : List D} {v : List V} {f : List Addr} {D' : Addr} {o : HO} (r : Reps G Z H d v f) (h : D' ∉ f) : Reps G Z (upd H D' o) d v f :=
  Reps.mono (L2.Same.refl _) d v f (fun a ha => ⟨fun u e => by rw [upd_ne (fun q => h (by rw [← q]; exact ha))]; exact e, (Reps.own d v f r a ha).1⟩) r
theorem Reps.kept {q : Bool} {Z H Z' H' : Hp} {P P' : Addr → Prop} (x : Ext q Z H P Z' H' P') {d : List D} {v : List V} {f : List Addr} (r : Reps G Z H d v f) (np : ∀ a ∈ f, ¬ P a) : Reps G Z' H' d v f :=
  Reps.mono x.zz d v f (fun a ha => by
    obtain ⟨z, o, h, _⟩ := Reps.own d v f r a ha
    obtain ⟨h1, h2, _⟩ := x.keep z h (np a ha)
    exact ⟨fun u e => by rw [h] at e; cases e; exact h1, h2⟩) r
/-! ### tests of a comprehension -/
def tIfs (G : Gx) (T : Tab) (ifs : List E) : TT := fun σ H Q => ∃ Z ρ F, EnvR G none Z H σ ρ F ∧
  Okk (evIfs T ifs ρ) (fun b ρ' => ∀ Z' H' F', EnvR G none Z' H' σ ρ' F' → Ext (quiets ifs) Z H (InF F) Z' H' (InF F') → Q b H') fun _ _ => False
theorem pts_nilS : PTs X [] (tIfs G T []) := ⟨fun pins s σ H Q I ⟨Z, ρ, F, env, ok⟩ => pts_nil.run pins s σ H Q I (by
  rw [evIfs] at ok
  exact ok Z H F env Ext.refl)⟩
theorem evIfs_one {e : E} {ρ : Env} : evIfs T [e] ρ = evT T e ρ := by rw [evIfs]; rfl
theorem pts_oneS {e : E} {x : Expr} (h : PT X x (tTT G none WF T e)) : PTs X [x] (tIfs G T [e]) := ⟨fun pins s σ H Q I ⟨Z, ρ, F, env, ok⟩ => (pts_one h).run pins s σ H Q I (by
  rw [evIfs_one] at ok
  exact ⟨Z, ρ, F, env, ok.imp (fun b ρ' q Z' H' F' e _ x => q Z' H' F' e (x.wk fun q => (andB q).1)) fun _ _ q => q.elim⟩)⟩
/-- an element that is kept -/
theorem keep_at {e : E} {Z H : Hp} {σ : L2.St} {ρ : Env} {F : Fp} {Q : VK} {ko : Option Pd.D → Env → Prop} (ok : Okk ((evE T e ρ).bind fun d ρ4 => if (isPlace e && !still d) = true then R.stk else .ok (some d) ρ4) ko fun _ _ => False)
    (k : ∀ d ρ' v Z' H' F' f, ko (some d) ρ' → EPost G none (pur e) (quiet e) false Z H σ F d ρ' v Z' H' F' f → Q v H') : Okk (evE T e ρ) (KO G none (pur e) (quiet e) (isPlace e) Z H σ F Q) (KX G none WF (quiet e) Z H σ F) := by
  refine (Okk.bind ok).imp (fun d ρ1 ok1 v Z1 H1 F1 f1 p1 => ?_) fun _ _ q => q.elim
  obtain ⟨hc, kk⟩ := Okk.ite ok1
  exact k d ρ1 v Z1 H1 F1 f1 kk (p1.unpl ((and_false_or hc).imp id not_false))
/-- the loop's state: the block's slots are empty, the new list at D -/
structure CInv (G : Gx) (qb : Bool) (Z1 H1 : Hp) (F1 : Fp) (σ : L2.St) (own : List Nat) (D : Addr) (ρ : Env) (acc : List Pd.D) (n : Nat) (Z H : Hp) (F : Fp) (avs : List V) (fa : List Addr) : Prop where
  env : EnvR G none Z H (L2.wipe σ own) (wipeD ρ own) F
  hD : H D = some (.lst avs)
  zD : Z D = none
  reps : Reps G Z H acc avs fa
  nd : (D :: fa).Nodup
  out : ∀ a ∈ D :: fa, ¬ InF F a
  ext : Ext qb Z1 H1 (InF F1) Z H (fun a => InF F a ∨ a ∈ D :: fa)
  len : acc.length ≤ n
/-- a step of the body: what is held besides stays -/
theorem CInv.step {qb q : Bool} {Z1 H1 : Hp} {F1 : Fp} {σ : L2.St} {own : List Nat} {D : Addr} {ρ : Env} {acc : List Pd.D} {n : Nat} {Z H : Hp} {F : Fp} {avs : List V} {fa : List Addr} {Z' H' : Hp} {P' : Addr → Prop} (i : CInv G qb Z1 H1 F1 σ own D ρ acc n Z H F avs fa) (x : Ext q Z H (InF F) Z' H' P') (hq : qb = true → q = true) :
    H' D = some (.lst avs) ∧ Z' D = none ∧ Reps G Z' H' acc avs fa ∧ (∀ a ∈ D :: fa, ¬ P' a) ∧ Ext qb Z1 H1 (InF F1) Z' H' (fun a => P' a ∨ a ∈ D :: fa) := by
  obtain ⟨k1, k2, k3⟩ := x.keep i.zD i.hD (i.out D List.mem_cons_self)
  refine ⟨k1, k2, i.reps.kept x fun a ha => i.out a (List.mem_cons_of_mem _ ha), fun a ha => ?_, i.ext.trans ((x.wk hq).frame _)⟩
  rcases List.mem_cons.mp ha with rfl | ha
  · exact k3
  · obtain ⟨z, o, h, _⟩ := Reps.own acc avs fa i.reps a ha
    exact (x.keep z h (i.out a (List.mem_cons_of_mem _ ha))).2.2
theorem comp_core {elt : E} {tg : Tg} {k : IK} {ies ifs : List E} {own : List Nat} (hsl : ∀ i ∈ tgSl tg, i ∈ own) {σ : L2.St} {H : Hp} {Q : VK} (h : tEE G ex W T (.comp elt tg k ies ifs own) σ H Q) :
    tLc (tIt G ex W T k ies) (tG G none tg) (tIfs G T ifs) (tEE G none WF T elt) own σ H Q := by
  obtain ⟨Z0, ρ0, F0, env0, ok⟩ := h
  rw [evE] at ok
  refine ⟨Z0, ρ0, F0, env0, (Okk.bind ok).imp (fun ds ρ1 ok1 => ?_) fun x ρ' kx cls dx Z' H' F' xp => kx cls dx Z' H' F' ⟨xp.env, xp.ext.wk fun q => (andB (andB q).2).1, xp.is⟩⟩
  cases hit : iterD k ds with
  | none => rw [hit] at ok1; exact ok1.elim
  | some items =>
  rw [hit] at ok1
  obtain ⟨hck, ok2⟩ := Okk.ite ok1
  obtain ⟨hc1, hc2⟩ := bor_false hck
  obtain ⟨hst, hc1⟩ := andB (not_false hc1)
  obtain ⟨hln, how⟩ := andB hc1
  have hln : items.length < 16777216 := of_decide_eq_true hln
  have hqb : stills ds = true ∨ (quiet elt && quiets ifs) = true := (and_false_or hc2).imp not_false not_false
  refine ⟨items, rfl, hst, fun Z1 H1 F1 J env1 hpu x1 hJ D hD => ?_⟩
  obtain ⟨Gd, Y, walk, hJ⟩ := hJ
  have hzD : Z1 D = none := sub_none env1.sub hD
  have hFD : ¬ InF F1 D := fun q => by obtain ⟨_, o, e, _⟩ := env1.owned q; rw [hD] at e; cases e
  -- what is to come behind the loop
  have ok3 := Okk.bind ok2
  generalize hkx : (fun (x : Exn) (ρ' : Env) => ∀ (cls : Value) (dx : Option Addr) (Z' H' : Hp) (F' : Fp), XPost G ex (quiet (.comp elt tg k ies ifs own)) Z0 H σ σ F0 x ρ' cls dx Z' H' F' → W cls dx σ H') = kx at ok3
  generalize hko : (fun (a : List Pd.D) (ρ : Env) => Okk (R.ok (Pd.D.mls a) (backD ρ1 ρ own)) (fun d ρ' => ∀ (v : V) (Z' H' : Hp) (F' : Fp) (f : List Addr), EPost G ex (pur (.comp elt tg k ies ifs own)) (quiet (.comp elt tg k ies ifs own)) (isPlace (.comp elt tg k ies ifs own)) Z0 H σ F0 d ρ' v Z' H' F' f → Q v H') kx) = ko at ok3
  generalize hbody : (fun (x : Pd.D) (ρ : Env) => match asg tg x (wipeD ρ own) with
        | none => R.stk
        | some ρ2 => (evIfs T ifs ρ2).bind fun b ρ3 => if b = true then (evE T elt ρ3).bind fun d ρ4 => if (isPlace elt && !still d) = true then .stk else .ok (some d) ρ4 else .ok none ρ3) = body at ok3
  let Inv : Nat → Hp → Prop := fun i H => ∃ Z ρ F acc avs fa, CInv G (quiet elt && quiets ifs) Z1 H1 F1 σ own D ρ acc i Z H F avs fa ∧ Okk (loopC body (items.drop i) ρ acc) ko kx
  refine lc_it walk Inv ?_ ?_ ?_ ?_
  · obtain ⟨F', e', hF'⟩ := EnvR.wipe env1 own
    have fr : Fr Z1 H1 Z1 (upd H1 D (.lst [])) := Fr.own env1.sub hD
    refine ⟨Z1, ρ1, F', [], [], [], ⟨e'.fr fr, upd_same, hzD, ⟨rfl, rfl⟩, nodup1, fun a ha q => ?_, (Ext.upd ⟨L2.Same.refl _, fun _ _ e _ => e, fun a o e n => (by rw [n] at e; cases e), fun a ha => ?_⟩ hD), Nat.zero_le _⟩, ok3⟩
    · cases ha with
      | head => exact hFD (hF' D q)
      | tail _ h => cases h
    · rcases ha with ha | ha
      · exact .inl (hF' a ha)
      · cases ha with
        | head => exact .inr hD
        | tail _ h => cases h
  · intro i H hi ⟨Z, ρ, F, acc, avs, fa, ci, okl⟩
    exact (hJ Z H ci.ext.zz ci.env.sub (hqb.imp (fun q => by rw [q]; rfl) fun q a o e => ci.ext.fr a o e (.inl q))).1
  · intro i x H H' hi ⟨Z, ρ, F, acc, avs, fa, ci, okl⟩ y
    obtain ⟨Z', d, fr, hd, rx⟩ := (hJ Z H ci.ext.zz ci.env.sub (hqb.imp (fun q => by rw [q]; rfl) fun q a o e => ci.ext.fr a o e (.inl q))).2 i x H' hi y
    have hdrop : items.drop i = d :: items.drop (i + 1) := by
      rw [List.drop_eq_getElem_cons hi]
      rw [List.getElem?_eq_getElem hi] at hd
      rw [Option.some.inj hd]
    rw [hdrop, loopC] at okl
    -- the turn's own outcome
    have okb : Okk (body d ρ) (fun o ρ' => Okk (loopC body (items.drop (i + 1)) ρ' (match o with | none => acc | some d => acc ++ [d])) ko kx) fun _ _ => False := by
      cases hb : body d ρ with
      | stk => rw [hb] at okl; exact okl.elim
      | exn x ρ' => rw [hb] at okl; exact okl.elim
      | ok o ρ' =>
        rw [hb] at okl
        cases o with
        | none => exact okl
        | some d => exact okl
    generalize hk2 : (fun (o : Option Pd.D) (ρ' : Env) => Okk (loopC body (items.drop (i + 1)) ρ' (match o with | none => acc | some d => acc ++ [d])) ko kx) = ko2 at okb
    rw [← hbody] at okb
    dsimp only at okb
    cases ha : asg tg d (wipeD ρ own) with
    | none => simp only [ha] at okb; exact okb.elim
    | some ρ2 =>
    simp only [ha] at okb
    have ci' := ci.step (q := true) (P' := InF F) (fr.ext fun a h => .inl h) fun _ => rfl
    obtain ⟨d1, d2, d3, d4, d5⟩ := ci'
    refine ⟨Z', wipeD ρ own, F, d, [], ρ2, ci.env.fr fr, rx, List.nodup_nil, fun a h => (nomatch h), ha, fun σ2 F2 e2 s2 l2 k2 => ?_⟩
    have hw : L2.wipe σ2 own = L2.wipe σ own := wipe_same (by rw [l2, wipe_length]) k2 hsl
    have F2F : ∀ a, InF F2 a → InF F a := fun a h => (s2 a h).resolve_right fun q => nomatch q
    refine ⟨hw, Z', ρ2, F2, e2, (Okk.bind okb).imp (fun b ρ3 okc Z3 H3 F3 e3 x3 => ?_) fun _ _ q => q.elim⟩
    have x3' : Ext (quiet elt && quiets ifs) Z' H' (InF F) Z3 H3 (InF F3) := (Ext.refl.imp F2F).trans (x3.wk fun q => (andB q).2)
    have c2 : CInv G (quiet elt && quiets ifs) Z1 H1 F1 σ own D ρ acc i Z' H' F avs fa := ⟨ci.env.fr fr, d1, d2, d3, ci.nd, d4, d5, ci.len⟩
    obtain ⟨g1, g2, g3, g4, g5⟩ := c2.step x3' id
    cases b with
    | false =>
      obtain ⟨F', e', hF'⟩ := EnvR.wipe e3 own
      rw [hw] at e'
      show Inv (i + 1) H3
      exact ⟨Z3, ρ3, F', acc, avs, fa, ⟨e', g1, g2, g3, ci.nd, fun a h q => g4 a h (hF' a q), g5.imp fun a h => h.imp (hF' a) id, Nat.le_succ_of_le ci.len⟩, by have q : ko2 none ρ3 := okc; rw [← hk2] at q; exact q⟩
    | true =>
      refine ⟨Z3, ρ3, F3, e3, keep_at (show Okk ((evE T elt ρ3).bind _) _ _ from okc) fun d' ρ4 v Z4 H4 F4 f4 okd p4 => ?_⟩
      have x4 : Ext (quiet elt && quiets ifs) Z3 H3 (InF F3) Z4 H4 (fun a => InF F4 a ∨ a ∈ f4) := p4.ext.wk fun q => (andB q).1
      have henv : ∀ {σ : L2.St} {own : List Nat} {ρ : Env}, True := fun {_ _ _} => trivial
      have kD := x4.keep g2 g1 (g4 D List.mem_cons_self)
      have kf : ∀ a ∈ fa, ¬ (InF F4 a ∨ a ∈ f4) := fun a h => by
        obtain ⟨z, o, e, _⟩ := Reps.own acc avs fa g3 a h
        exact (x4.keep z e (g4 a (List.mem_cons_of_mem _ h))).2.2
      have rA : Reps G Z4 H4 acc avs fa := g3.kept x4 fun a h => g4 a (List.mem_cons_of_mem _ h)
      have x5 : Ext (quiet elt && quiets ifs) Z1 H1 (InF F1) Z4 H4 (fun a => (InF F4 a ∨ a ∈ f4) ∨ a ∈ D :: fa) := g5.trans (x4.frame _)
      have Df4 : D ∉ f4 := fun q => kD.2.2 (.inr q)
      have DF4 : ¬ InF F4 D := fun q => kD.2.2 (.inl q)
      have Dfa : D ∉ fa := (List.nodup_cons.mp ci.nd).1
      have hal : avs.length = acc.length := reps_len rA
      have hs : sizeLine = 16777216 := rfl
      refine ⟨avs, kD.1, by rw [hal, hs]; have := ci.len; omega, ?_⟩
      obtain ⟨F', e', hF'⟩ := EnvR.wipe (p4.env.upd (o := .lst (avs ++ [v])) kD.2.1 DF4) own
      rw [hw] at e'
      have r1 : Reps G Z4 (upd H4 D (.lst (avs ++ [v]))) (acc ++ [d']) (avs ++ [v]) (fa ++ (f4 ++ [])) := reps_app (rA.upd Dfa) ⟨v, [], f4, [], rfl, p4.rep.upd Df4, ⟨rfl, rfl⟩, rfl⟩
      rw [List.append_nil] at r1
      refine ⟨Z4, ρ4, F', acc ++ [d'], avs ++ [v], fa ++ f4, ⟨e', upd_same, kD.2.1, r1, ?_, fun a h q => ?_, (x5.upd hD).imp fun a h => ?_, by rw [List.length_append]; have := ci.len; simp; omega⟩, by rw [← hk2] at okd; exact okd⟩
      · refine List.nodup_cons.mpr ⟨fun q => ?_, List.nodup_append.mpr ⟨(List.nodup_cons.mp ci.nd).2, p4.nd, fun a h b h' e => kf a h (.inr (e ▸ h'))⟩⟩
        rcases List.mem_append.mp q with q | q
        · exact Dfa q
        · exact Df4 q
      · rcases List.mem_cons.mp h with rfl | h
        · exact DF4 (hF' _ q)
        · rcases List.mem_append.mp h with h | h
          · exact kf a h (.inl (hF' a q))
          · exact p4.val rfl a h (hF' a q)
      · rcases h with h | h
        · exact .inl (.inl (hF' a h))
        · rcases List.mem_cons.mp h with rfl | h
          · exact .inr List.mem_cons_self
          · rcases List.mem_append.mp h with h | h
            · exact .inr (List.mem_cons_of_mem _ h)
            · exact .inl (.inr h)
  · intro H ⟨Z, ρ, F, acc, avs, fa, ci, okl⟩
    rw [List.drop_eq_nil_of_le (Nat.le_refl _), loopC] at okl
    have okl : ko acc ρ := okl
    rw [← hko] at okl
    have eb : EnvR G ex Z H σ (backD ρ1 ρ own) F := EnvR.back env1 ci.env ci.ext.zz how
    refine okl (.ref D) Z H F (D :: fa) ⟨eb, ⟨D, avs, fa, rfl, ci.hD, ci.zD, ci.reps, rfl⟩, ci.nd, fun _ a h => ci.out a h, fun q => (nomatch q), fun q => (nomatch q), ?_⟩
    exact (x1.wk (q' := quiet (.comp elt tg k ies ifs own)) fun q => (andB (andB q).2).1).trans (ci.ext.wk fun q => by
      obtain ⟨q1, q2⟩ := andB q
      rw [q1, (andB q2).2]
      rfl)
theorem comp_sound (hX : XOk G c lv ex W X) (hc : c.hot = false) {elt : E} {tg : Tg} {k : IK} {ies ifs : List E} {ownP : List (Str × Nat)} {eltx tgx iterx : Expr} {ifx : List Expr} {scope : Scope} {pos : Pos}
    (hi : PI X tgx iterx (tIt G ex W T k ies)) (hb : blkC c.N c.sc scope ownP = true) (hsl : ∀ i ∈ tgSl tg, i ∈ ownP.map (·.2)) (hp : plainX iterx = true)
    (hg : ∀ (s : Shared) (H : Hp) (C : Addr) (cl : List (Str × Addr)) (fp : List Addr), PG (X.blk s H scope (compEnvC scope cl C X.env) fp) tgx (tG G none tg))
    (ht : ∀ (s : Shared) (H : Hp) (C : Addr) (cl : List (Str × Addr)) (fp : List Addr), PTs (X.blk s H scope (compEnvC scope cl C X.env) fp) ifx (tIfs G T ifs))
    (he : ∀ (s : Shared) (H : Hp) (C : Addr) (cl : List (Str × Addr)) (fp : List Addr), PE (X.blk s H scope (compEnvC scope cl C X.env) fp) eltx (tEE G none WF T elt)) :
    PE X (.ListComp eltx [⟨tgx, iterx, ifx, 0⟩] scope pos) (tEE G ex W T (.comp elt tg k ies ifs (ownP.map (·.2)))) := by
  have hcalm : X.calm = true := by rw [hX.calm, hc]; rfl
  have blk : BlkOk X.N X.env.scope scope ownP := by rw [hX.N, hX.sc]; exact blkOk_by hb
  exact PE.imp (pe_lc hcalm hX.ndN hi blk hg ht he (folded_plain hp X.env)) fun σ H Q h => comp_core hsl h
end
end Pd

set_option Elab.async false
set_option linter.all false
set_option maxRecDepth 100000
set_option maxHeartbeats 2000000
/-! PdN2: comprehensions of two loops. -/
namespace Pd
open PySem PySem.Spec PyProof.Rows L2
section
variable {J : It} {n : Nat} {Gd : Hp → Prop} {Y : Nat → Hp → V → Hp → Prop}
theorem lc_gen (w : Walk J n Gd Y) {H1 : Hp} {Bd : V → Hp → (Hp → Prop) → Prop} {Qd : Hp → Prop} (Pv : Nat → Hp → Prop) (h0 : Pv 0 H1) (hG : ∀ i H, i ≤ n → Pv i H → Gd H)
    (hs : ∀ i x H H', i < n → Pv i H → Y i H x H' → Bd x H' (Pv (i + 1))) (hd : ∀ H, Pv n H → Qd H) :
    ∃ W : Nat → Nat → Hp → Prop, (∃ m, W 0 m H1) ∧ ∀ i m H, W i m H → (J.stop i H ∧ Qd H) ∨ (J.go i H ∧ ∃ Nx : Hp → Prop, (∀ H', Nx H' → ∃ m', m' < m ∧ W (i + 1) m' H') ∧ ∀ x H', J.yld i H x H' → Bd x H' Nx) := by
  refine ⟨fun i m H => m = n - i ∧ i ≤ n ∧ Pv i H, ⟨n, by simp, Nat.zero_le _, h0⟩, ?_⟩
  rintro i m H ⟨rfl, hi, p⟩
  have q := hG i H hi p
  by_cases hlt : i < n
  · refine .inr ⟨w.goes i H hlt q, Pv (i + 1), fun H' p' => ⟨n - (i + 1), by omega, rfl, hlt, p'⟩, fun x H' y => hs i x H H' hlt p (w.yields i H x H' hlt q y)⟩
  · have e : i = n := by omega
    subst e
    exact .inl ⟨w.stops H q, hd H p⟩
end
section
variable {G : Gx} {c : Ck} {lv : Nat} {ex : Option (Nat × V)} {W : WX} {X : Cx} {T : Tab}
theorem wipeD_in' {ρ : Env} {i : Nat} : ∀ own : List Nat, i ∈ own → (wipeD ρ own)[i]? = if i < ρ.length then some none else none
  | [], h => nomatch h
  | j :: own, h => by
    show ((wipeD ρ own).set j none)[i]? = _
    by_cases q : j = i
    · subst q
      rw [List.getElem?_set, wipeD_len]
      simp
    · rw [List.getElem?_set_ne q]
      exact wipeD_in' own (by rcases List.mem_cons.mp h with e | e; exact absurd e.symm q; exact e)
theorem wipeD_twice {ρ : Env} {a b : List Nat} (h : ∀ i ∈ a, i ∈ b) : wipeD (wipeD ρ a) b = wipeD ρ b := by
  refine List.ext_getElem? fun i => ?_
  by_cases hi : i ∈ b
  · rw [wipeD_in' b hi, wipeD_in' b hi, wipeD_len]
  · rw [wipeD_at b hi, wipeD_at b hi, wipeD_at a fun q => hi (h i q)]
theorem comp2_core {elt : E} {tg tg' : Tg} {k k' : IK} {ies ies' : List E} {own : List Nat} (hsl : ∀ i ∈ tgSl tg, i ∈ own) (hsl' : ∀ i ∈ tgSl tg', i ∈ own) {σ : L2.St} {H : Hp} {Q : VK} (h : tEE G ex W T (.comp2 elt tg k ies tg' k' ies' own) σ H Q) :
    tLc2 (tIt G ex W T k ies) (tG G none tg) (tIfs G T []) (tIt G none WF T k' ies') (tG G none tg') (tIfs G T []) (tEE G none WF T elt) own (tgSl tg') σ H Q := by
  obtain ⟨Z0, ρ0, F0, env0, ok⟩ := h
  rw [evE] at ok
  refine ⟨Z0, ρ0, F0, env0, (Okk.bind ok).imp (fun ds ρ1 ok1 => ?_) fun x ρ' kx cls dx Z' H' F' xp => kx cls dx Z' H' F' ⟨xp.env, xp.ext.wk fun q => (andB (andB q).2).1, xp.is⟩⟩
  cases hit : iterD k ds with
  | none => rw [hit] at ok1; exact ok1.elim
  | some items =>
  rw [hit] at ok1
  obtain ⟨hck, ok2⟩ := Okk.ite ok1
  obtain ⟨hc1, hc2⟩ := bor_false hck
  obtain ⟨hst, how⟩ := andB (not_false hc1)
  have hqb : stills ds = true ∨ (quiet elt && quiets ies') = true := (and_false_or hc2).imp not_false not_false
  refine ⟨items, rfl, hst, fun Z1 H1 F1 J env1 hpu x1 hJ D hD => ?_⟩
  obtain ⟨Gd, Y, walk, hJ⟩ := hJ
  have hzD : Z1 D = none := sub_none env1.sub hD
  have hFD : ¬ InF F1 D := fun q => by obtain ⟨_, o, e, _⟩ := env1.owned q; rw [hD] at e; cases e
  have ok3 := Okk.bind ok2
  generalize hkx : (fun (x : Exn) (ρ' : Env) => ∀ (cls : Value) (dx : Option Addr) (Z' H' : Hp) (F' : Fp), XPost G ex (quiet (.comp2 elt tg k ies tg' k' ies' own)) Z0 H σ σ F0 x ρ' cls dx Z' H' F' → W cls dx σ H') = kx at ok3
  generalize hko : (fun (a : List Pd.D) (ρ : Env) => Okk (R.ok (Pd.D.mls a) (backD ρ1 ρ own)) (fun d ρ' => ∀ (v : V) (Z' H' : Hp) (F' : Fp) (f : List Addr), EPost G ex (pur (.comp2 elt tg k ies tg' k' ies' own)) (quiet (.comp2 elt tg k ies tg' k' ies' own)) (isPlace (.comp2 elt tg k ies tg' k' ies' own)) Z0 H σ F0 d ρ' v Z' H' F' f → Q v H') kx) = ko at ok3
  generalize hin : (fun (x : Pd.D) (ρ : Env) => match asg tg' x (wipeD ρ (tgSl tg')) with
              | none => R.stk
              | some ρ2 => (evE T elt ρ2).bind fun d ρ4 => if (isPlace elt && !still d) = true then .stk else .ok (some d) ρ4) = inner at ok3
  generalize hbody : (fun (x : Pd.D) (ρ : Env) (acc : List Pd.D) => match asg tg x (wipeD ρ own) with
        | none => R.stk
        | some ρ2 => (evEs T anyD ies' ρ2).bind fun ds' ρ3 => match iterD k' ds' with
          | none => .stk
          | some items' => if (!(stills items' && decide (acc.length + items'.length < 16777216)) || !stills ds') = true then .stk else
            loopC inner items' ρ3 acc) = body at ok3
  let qb := quiet elt && quiets ies'
  let Inv : Nat → Hp → Prop := fun i H => ∃ Z ρ F acc avs fa, CInv G qb Z1 H1 F1 σ own D ρ acc acc.length Z H F avs fa ∧ Okk (loopC2 body (items.drop i) ρ acc) ko kx
  refine lc_gen walk Inv ?_ ?_ ?_ ?_
  · obtain ⟨F', e', hF'⟩ := EnvR.wipe env1 own
    have fr : Fr Z1 H1 Z1 (upd H1 D (.lst [])) := Fr.own env1.sub hD
    refine ⟨Z1, ρ1, F', [], [], [], ⟨e'.fr fr, upd_same, hzD, ⟨rfl, rfl⟩, nodup1, fun a ha q => ?_, (Ext.upd ⟨L2.Same.refl _, fun _ _ e _ => e, fun a o e n => (by rw [n] at e; cases e), fun a ha => ?_⟩ hD), Nat.zero_le _⟩, ok3⟩
    · cases ha with
      | head => exact hFD (hF' D q)
      | tail _ h => cases h
    · rcases ha with ha | ha
      · exact .inl (hF' a ha)
      · cases ha with
        | head => exact .inr hD
        | tail _ h => cases h
  · intro i H hi ⟨Z, ρ, F, acc, avs, fa, ci, okl⟩
    exact (hJ Z H ci.ext.zz ci.env.sub (hqb.imp (fun q => by rw [q]; rfl) fun q a o e => ci.ext.fr a o e (.inl q))).1
  · intro i x H H' hi ⟨Z, ρ, F, acc, avs, fa, ci, okl⟩ y
    obtain ⟨Z', d, fr, hd, rx⟩ := (hJ Z H ci.ext.zz ci.env.sub (hqb.imp (fun q => by rw [q]; rfl) fun q a o e => ci.ext.fr a o e (.inl q))).2 i x H' hi y
    have hdrop : items.drop i = d :: items.drop (i + 1) := by
      rw [List.drop_eq_getElem_cons hi]
      rw [List.getElem?_eq_getElem hi] at hd
      rw [Option.some.inj hd]
    rw [hdrop, loopC2] at okl
    have okb : Okk (body d ρ acc) (fun acc' ρ' => Okk (loopC2 body (items.drop (i + 1)) ρ' acc') ko kx) fun _ _ => False := by
      cases hb : body d ρ acc with
      | stk => rw [hb] at okl; exact okl.elim
      | exn x ρ' => rw [hb] at okl; exact okl.elim
      | ok o ρ' => rw [hb] at okl; exact okl
    generalize hk2 : (fun (acc' : List Pd.D) (ρ' : Env) => Okk (loopC2 body (items.drop (i + 1)) ρ' acc') ko kx) = ko2 at okb
    rw [← hbody] at okb
    dsimp only at okb
    cases ha : asg tg d (wipeD ρ own) with
    | none => simp only [ha] at okb; exact okb.elim
    | some ρ2 =>
    simp only [ha] at okb
    obtain ⟨d1, d2, d3, d4, d5⟩ := ci.step (q := true) (P' := InF F) (fr.ext fun a h => .inl h) fun _ => rfl
    refine ⟨Z', wipeD ρ own, F, d, [], ρ2, ci.env.fr fr, rx, List.nodup_nil, fun a h => (nomatch h), ha, fun σ2 F2 e2 s2 l2 k2 => ?_⟩
    have hw : L2.wipe σ2 own = L2.wipe σ own := wipe_same (by rw [l2, wipe_length]) k2 hsl
    have hw2 : L2.wipe (L2.wipe σ2 (tgSl tg')) own = L2.wipe σ own := wipe_same (sl := own) (by rw [wipe_length, l2, wipe_length]) (fun i hi => by
      rw [wipe_at _ fun q => hi (hsl' i q), k2 i fun q => hi (hsl i q)]) fun _ q => q
    have F2F : ∀ a, InF F2 a → InF F a := fun a h => (s2 a h).resolve_right fun q => nomatch q
    refine ⟨hw, Z', ρ2, F2, e2, ?_⟩
    rw [evIfs]
    intro Z3 H3 F3 e3 x3
    simp only [if_true]
    have x3' : Ext qb Z' H' (InF F) Z3 H3 (InF F3) := (Ext.refl.imp F2F).trans (x3.wk fun _ => rfl)
    have c2 : CInv G qb Z1 H1 F1 σ own D ρ acc acc.length Z' H' F avs fa := ⟨ci.env.fr fr, d1, d2, d3, ci.nd, d4, d5, ci.len⟩
    obtain ⟨g1, g2, g3, g4, g5⟩ := c2.step x3' id
    refine ⟨Z3, ρ2, F3, e3, (Okk.bind okb).imp (fun ds' ρ3 okc => ?_) fun _ _ q => q.elim⟩
    cases hit' : iterD k' ds' with
    | none => rw [hit'] at okc; exact okc.elim
    | some items' =>
    rw [hit'] at okc
    obtain ⟨hck', okd⟩ := Okk.ite okc
    obtain ⟨hc1', hc2'⟩ := bor_false hck'
    obtain ⟨hst', hln'⟩ := andB (not_false hc1')
    have hln' : acc.length + items'.length < 16777216 := of_decide_eq_true hln'
    have hds' : stills ds' = true := not_false hc2'
    refine ⟨items', rfl, hst', fun Z4 H4 F4 J1 e4 hpu' x4 hJ1 => ?_⟩
    obtain ⟨Gd1, Y1, walk1, hJ1⟩ := hJ1
    have x4' : Ext qb Z3 H3 (InF F3) Z4 H4 (InF F4) := x4.wk fun q => (andB q).2
    have x34 := x3'.trans x4'
    obtain ⟨m1, m2, m3, m4, m5⟩ := c2.step x34 id
    let n0 := acc.length
    let InvI : Nat → Hp → Prop := fun j H => ∃ Z ρ F acc' avs fa, CInv G qb Z1 H1 F1 σ2 (tgSl tg') D ρ acc' (n0 + j) Z H F avs fa ∧ L2.Same Z4 Z ∧ Okk (loopC inner (items'.drop j) ρ acc') ko2 fun _ _ => False
    refine lc_gen walk1 InvI ?_ ?_ ?_ ?_
    · obtain ⟨F', e', hF'⟩ := EnvR.wipe e4 (tgSl tg')
      exact ⟨Z4, ρ3, F', acc, avs, fa, ⟨e', m1, m2, m3, ci.nd, fun a h q => m4 a h (hF' a q), m5.imp fun a h => h.imp (hF' a) id, Nat.le_refl _⟩, L2.Same.refl _, okd⟩
    · intro j H hj ⟨Z, ρ, F, acc', avs, fa, cj, zz, okl⟩
      exact (hJ1 Z H zz cj.env.sub (.inl (by rw [hds']; rfl))).1
    · intro j x H H' hj ⟨Z, ρ, F, acc', avs, fa, cj, zz, okl⟩ y
      obtain ⟨Z', d, fr, hd, rx⟩ := (hJ1 Z H zz cj.env.sub (.inl (by rw [hds']; rfl))).2 j x H' hj y
      have hdrop : items'.drop j = d :: items'.drop (j + 1) := by
        rw [List.drop_eq_getElem_cons hj]
        rw [List.getElem?_eq_getElem hj] at hd
        rw [Option.some.inj hd]
      rw [hdrop, loopC] at okl
      have okb : Okk (inner d ρ) (fun o ρ' => Okk (loopC inner (items'.drop (j + 1)) ρ' (match o with | none => acc' | some d => acc' ++ [d])) ko2 fun _ _ => False) fun _ _ => False := by
        cases hb : inner d ρ with
        | stk => rw [hb] at okl; exact okl.elim
        | exn x ρ' => rw [hb] at okl; exact okl.elim
        | ok o ρ' =>
          rw [hb] at okl
          cases o with
          | none => exact okl
          | some d => exact okl
      generalize hk3 : (fun (o : Option Pd.D) (ρ' : Env) => Okk (loopC inner (items'.drop (j + 1)) ρ' (match o with | none => acc' | some d => acc' ++ [d])) ko2 fun _ _ => False) = ko3 at okb
      rw [← hin] at okb
      dsimp only at okb
      cases ha : asg tg' d (wipeD ρ (tgSl tg')) with
      | none => simp only [ha] at okb; exact okb.elim
      | some ρ4 =>
      simp only [ha] at okb
      obtain ⟨d1, d2, d3, d4, d5⟩ := cj.step (q := true) (P' := InF F) (fr.ext fun a h => .inl h) fun _ => rfl
      refine ⟨Z', wipeD ρ (tgSl tg'), F, d, [], ρ4, cj.env.fr fr, rx, List.nodup_nil, fun a h => (nomatch h), ha, fun σ3 F5 e5 s5 l5 k5 => ?_⟩
      have hw' : L2.wipe σ3 (tgSl tg') = L2.wipe σ2 (tgSl tg') := wipe_same (by rw [l5, wipe_length]) k5 fun _ q => q
      have F5F : ∀ a, InF F5 a → InF F a := fun a h => (s5 a h).resolve_right fun q => nomatch q
      refine ⟨hw', Z', ρ4, F5, e5, ?_⟩
      rw [evIfs]
      intro Z6 H6 F6 e6 x6
      simp only [if_true]
      have x6' : Ext qb Z' H' (InF F) Z6 H6 (InF F6) := (Ext.refl.imp F5F).trans (x6.wk fun _ => rfl)
      have c2 : CInv G qb Z1 H1 F1 σ2 (tgSl tg') D ρ acc' (n0 + j) Z' H' F avs fa := ⟨cj.env.fr fr, d1, d2, d3, cj.nd, d4, d5, cj.len⟩
      obtain ⟨g1, g2, g3, g4, g5⟩ := c2.step x6' id
      refine ⟨Z6, ρ4, F6, e6, keep_at (show Okk ((evE T elt ρ4).bind _) _ _ from okb) fun d' ρ7 v Z7 H7 F7 f7 oke p7 => ?_⟩
      have x7 : Ext qb Z6 H6 (InF F6) Z7 H7 (fun a => InF F7 a ∨ a ∈ f7) := p7.ext.wk fun q => (andB q).1
      have kD := x7.keep g2 g1 (g4 D List.mem_cons_self)
      have kf : ∀ a ∈ fa, ¬ (InF F7 a ∨ a ∈ f7) := fun a h => by
        obtain ⟨z, o, e, _⟩ := Reps.own acc' avs fa g3 a h
        exact (x7.keep z e (g4 a (List.mem_cons_of_mem _ h))).2.2
      have rA : Reps G Z7 H7 acc' avs fa := g3.kept x7 fun a h => g4 a (List.mem_cons_of_mem _ h)
      have x8 : Ext qb Z1 H1 (InF F1) Z7 H7 (fun a => (InF F7 a ∨ a ∈ f7) ∨ a ∈ D :: fa) := g5.trans (x7.frame _)
      have Df7 : D ∉ f7 := fun q => kD.2.2 (.inr q)
      have DF7 : ¬ InF F7 D := fun q => kD.2.2 (.inl q)
      have Dfa : D ∉ fa := (List.nodup_cons.mp cj.nd).1
      have hal : avs.length = acc'.length := reps_len rA
      have hs : sizeLine = 16777216 := rfl
      refine ⟨avs, kD.1, by rw [hal, hs]; have := cj.len; omega, ?_⟩
      obtain ⟨F', e', hF'⟩ := EnvR.wipe (p7.env.upd (o := .lst (avs ++ [v])) kD.2.1 DF7) (tgSl tg')
      rw [hw'] at e'
      have r1 : Reps G Z7 (upd H7 D (.lst (avs ++ [v]))) (acc' ++ [d']) (avs ++ [v]) (fa ++ (f7 ++ [])) := reps_app (rA.upd Dfa) ⟨v, [], f7, [], rfl, p7.rep.upd Df7, ⟨rfl, rfl⟩, rfl⟩
      rw [List.append_nil] at r1
      refine ⟨Z7, ρ7, F', acc' ++ [d'], avs ++ [v], fa ++ f7, ⟨e', upd_same, kD.2.1, r1, ?_, fun a h q => ?_, (x8.upd hD).imp fun a h => ?_, by rw [List.length_append]; have := cj.len; simp; omega⟩, ((zz.trans fr.zz).trans x6'.zz).trans x7.zz, by rw [← hk3] at oke; exact oke⟩
      · refine List.nodup_cons.mpr ⟨fun q => ?_, List.nodup_append.mpr ⟨(List.nodup_cons.mp cj.nd).2, p7.nd, fun a h b h' e => kf a h (.inr (e ▸ h'))⟩⟩
        rcases List.mem_append.mp q with q | q
        · exact Dfa q
        · exact Df7 q
      · rcases List.mem_cons.mp h with rfl | h
        · exact DF7 (hF' _ q)
        · rcases List.mem_append.mp h with h | h
          · exact kf a h (.inl (hF' a q))
          · exact p7.val rfl a h (hF' a q)
      · rcases h with h | h
        · exact .inl (.inl (hF' a h))
        · rcases List.mem_cons.mp h with rfl | h
          · exact .inr List.mem_cons_self
          · rcases List.mem_append.mp h with h | h
            · exact .inr (List.mem_cons_of_mem _ h)
            · exact .inl (.inr h)
    · intro H ⟨Z, ρ, F, acc', avs, fa, cj, zz, okl⟩
      rw [List.drop_eq_nil_of_le (Nat.le_refl _), loopC] at okl
      have okl : ko2 acc' ρ := okl
      rw [← hk2] at okl
      obtain ⟨F', e', hF'⟩ := EnvR.wipe cj.env own
      rw [hw2, wipeD_twice hsl'] at e'
      exact ⟨Z, ρ, F', acc', avs, fa, ⟨e', cj.hD, cj.zD, cj.reps, cj.nd, fun a h q => cj.out a h (hF' a q), cj.ext.imp fun a h => h.imp (hF' a) id, Nat.le_refl _⟩, okl⟩
  · intro H ⟨Z, ρ, F, acc, avs, fa, ci, okl⟩
    rw [List.drop_eq_nil_of_le (Nat.le_refl _), loopC2] at okl
    have okl : ko acc ρ := okl
    rw [← hko] at okl
    have eb : EnvR G ex Z H σ (backD ρ1 ρ own) F := EnvR.back env1 ci.env ci.ext.zz how
    refine okl (.ref D) Z H F (D :: fa) ⟨eb, ⟨D, avs, fa, rfl, ci.hD, ci.zD, ci.reps, rfl⟩, ci.nd, fun _ a h => ci.out a h, fun q => (nomatch q), fun q => (nomatch q), ?_⟩
    exact (x1.wk (q' := quiet (.comp2 elt tg k ies tg' k' ies' own)) fun q => (andB (andB q).2).1).trans (ci.ext.wk fun q => by
      obtain ⟨q1, q2⟩ := andB q
      show (quiet elt && quiets ies') = true
      rw [q1, (andB q2).2]
      rfl)
theorem comp2_sound (hX : XOk G c lv ex W X) (hc : c.hot = false) {elt : E} {tg tg' : Tg} {k k' : IK} {ies ies' : List E} {ownP : List (Str × Nat)} {eltx tgx iterx tgx' iterx' : Expr} {scope : Scope} {pos : Pos}
    (hi : PI X tgx iterx (tIt G ex W T k ies)) (hb : blkC c.N c.sc scope ownP = true) (hsl : ∀ i ∈ tgSl tg, i ∈ ownP.map (·.2)) (hsl' : ∀ i ∈ tgSl tg', i ∈ ownP.map (·.2)) (hp : plainX iterx = true) (hp' : plainX iterx' = true)
    (hg : ∀ (s : Shared) (H : Hp) (C : Addr) (cl : List (Str × Addr)) (fp : List Addr), PG (X.blk s H scope (compEnvC scope cl C X.env) fp) tgx (tG G none tg))
    (hi' : ∀ (s : Shared) (H : Hp) (C : Addr) (cl : List (Str × Addr)) (fp : List Addr), PI (X.blk s H scope (compEnvC scope cl C X.env) fp) tgx' iterx' (tIt G none WF T k' ies'))
    (hg' : ∀ (s : Shared) (H : Hp) (C : Addr) (cl : List (Str × Addr)) (fp : List Addr), PG (X.blk s H scope (compEnvC scope cl C X.env) fp) tgx' (tG G none tg'))
    (he : ∀ (s : Shared) (H : Hp) (C : Addr) (cl : List (Str × Addr)) (fp : List Addr), PE (X.blk s H scope (compEnvC scope cl C X.env) fp) eltx (tEE G none WF T elt)) :
    PE X (.ListComp eltx [⟨tgx, iterx, [], 0⟩, ⟨tgx', iterx', [], 0⟩] scope pos) (tEE G ex W T (.comp2 elt tg k ies tg' k' ies' (ownP.map (·.2)))) := by
  have hcalm : X.calm = true := by rw [hX.calm, hc]; rfl
  have blk : BlkOk X.N X.env.scope scope ownP := by rw [hX.N, hX.sc]; exact blkOk_by hb
  exact PE.imp (pe_lc2 hcalm hX.ndN hi blk hsl' hg (fun _ _ _ _ _ => pts_nilS) hi' hg' (fun _ _ _ _ _ => pts_nilS) he (folded_plain hp X.env) fun env => folded_plain hp' env) fun σ H Q h => comp2_core hsl hsl' h
end
end Pd

set_option Elab.async false
set_option linter.all false
set_option maxRecDepth 100000
set_option maxHeartbeats 2000000
/-! PdO: statements. -/
namespace Pd
open PySem PySem.Spec PyProof.Rows L2
def OkS (G : Gx) (ex : Option (Nat × V)) (W : WX) (q : Bool) (Z H : Hp) (P : Addr → Prop) (D : Ends) : RS → Prop
  | .nx ρ' => ∀ σ' Z' H' F', EnvR G ex Z' H' σ' ρ' F' → Ext q Z H P Z' H' (InF F') → D.nx σ' H'
  | .bk ρ' => ∀ σ' Z' H' F', EnvR G ex Z' H' σ' ρ' F' → Ext q Z H P Z' H' (InF F') → D.bk σ' H'
  | .ct ρ' => ∀ σ' Z' H' F', EnvR G ex Z' H' σ' ρ' F' → Ext q Z H P Z' H' (InF F') → D.ct σ' H'
  | .rt d ρ' => ∀ v σ' Z' H' F' f, EnvR G ex Z' H' σ' ρ' F' → Rep G Z' H' d v f → f.Nodup → (∀ a ∈ f, ¬ InF F' a) → Ext q Z H P Z' H' (fun a => InF F' a ∨ a ∈ f) → D.rt v H'
  | .ex x ρ' => ∀ cls dx σ' Z' H' F', EnvR G ex Z' H' σ' ρ' F' → Ext q Z H P Z' H' (InF F') → ExnIs G x cls dx H' → W cls dx σ' H'
  | .stk => False
def tS (G : Gx) (ex : Option (Nat × V)) (W : WX) (q : Bool) (ev : Env → RS) : TS := fun D σ H => ∃ Z ρ F, EnvR G ex Z H σ ρ F ∧ OkS G ex W q Z H (InF F) D (ev ρ)
section
variable {G : Gx} {c : Ck} {lv : Nat} {ex : Option (Nat × V)} {W : WX} {X : Cx} {T : Tab}
theorem OkS.ext {q : Bool} {Z H Z1 H1 : Hp} {P P1 : Addr → Prop} {D : Ends} {r : RS} (x : Ext q Z H P Z1 H1 P1) (h : OkS G ex W q Z H P D r) : OkS G ex W q Z1 H1 P1 D r := by
  cases r with
  | nx ρ => exact fun σ' Z' H' F' e y => h σ' Z' H' F' e (x.trans y)
  | bk ρ => exact fun σ' Z' H' F' e y => h σ' Z' H' F' e (x.trans y)
  | ct ρ => exact fun σ' Z' H' F' e y => h σ' Z' H' F' e (x.trans y)
  | rt d ρ => exact fun v σ' Z' H' F' f e r nd np y => h v σ' Z' H' F' f e r nd np (x.trans y)
  | ex x' ρ => exact fun cls dx σ' Z' H' F' e y is => h cls dx σ' Z' H' F' e (x.trans y) is
  | stk => exact h.elim
theorem OkS.wk {q q' : Bool} {Z H : Hp} {P : Addr → Prop} {D : Ends} {r : RS} (h : OkS G ex W q Z H P D r) (hq : q = true → q' = true) : OkS G ex W q' Z H P D r := by
  cases r with
  | nx ρ => exact fun σ' Z' H' F' e y => h σ' Z' H' F' e (y.wk hq)
  | bk ρ => exact fun σ' Z' H' F' e y => h σ' Z' H' F' e (y.wk hq)
  | ct ρ => exact fun σ' Z' H' F' e y => h σ' Z' H' F' e (y.wk hq)
  | rt d ρ => exact fun v σ' Z' H' F' f e r nd np y => h v σ' Z' H' F' f e r nd np (y.wk hq)
  | ex x' ρ => exact fun cls dx σ' Z' H' F' e y is => h cls dx σ' Z' H' F' e (y.wk hq) is
  | stk => exact h.elim
theorem OkS.of {q : Bool} {Z H : Hp} {P : Addr → Prop} {D : Ends} {o : Option Env} (h : OkS G ex W q Z H P D (RS.of o)) : ∃ ρ, o = some ρ ∧ OkS G ex W q Z H P D (.nx ρ) := by
  cases o with
  | none => exact h.elim
  | some ρ => exact ⟨ρ, rfl, h⟩
/-- a value, then a statement's rest -/
theorem OkS.st {α : Type} {q : Bool} {Z H : Hp} {P : Addr → Prop} {D : Ends} {r : R α} {f : α → Env → RS} (h : OkS G ex W q Z H P D (r.st f)) : Okk r (fun a ρ => OkS G ex W q Z H P D (f a ρ)) (fun x ρ' => OkS G ex W q Z H P D (.ex x ρ')) := by
  cases r with
  | ok a ρ => exact h
  | exn x ρ => exact h
  | stk => exact h.elim
theorem OkS.kx {q q' : Bool} {Z H : Hp} {σ : L2.St} {F : Fp} {D : Ends} {x : Exn} {ρ' : Env} (h : OkS G ex W q Z H (InF F) D (.ex x ρ')) (hq : q = true → q' = true) : KX G ex W q' Z H σ F x ρ' :=
  fun cls dx Z' H' F' xp => h cls dx σ Z' H' F' xp.env (xp.ext.wk hq) xp.is
theorem OkS.iteS {q : Bool} {Z H : Hp} {P : Addr → Prop} {D : Ends} {b : Bool} {r : RS} (h : OkS G ex W q Z H P D (if b = true then r else .stk)) : b = true ∧ OkS G ex W q Z H P D r := by
  cases b with
  | true => exact ⟨rfl, h⟩
  | false => exact h.elim
theorem OkS.iteN {q : Bool} {Z H : Hp} {P : Addr → Prop} {D : Ends} {b : Bool} {r : RS} (h : OkS G ex W q Z H P D (if b = true then .stk else r)) : b = false ∧ OkS G ex W q Z H P D r := by
  cases b with
  | true => exact h.elim
  | false => exact ⟨rfl, h⟩
/-- an expression whose value is read -/
theorem st_at {e : E} {k : D → Env → RS} {q : Bool} {Z H : Hp} {σ : L2.St} {ρ : Env} {F : Fp} {De : Ends} (hq : q = true → quiet e = true) (h : OkS G ex W q Z H (InF F) De ((evE T e ρ).st k)) :
    Okk (evE T e ρ) (fun d ρ1 => ∀ v Z1 H1 F1 f1, EPost G ex (pur e) (quiet e) (isPlace e) Z H σ F d ρ1 v Z1 H1 F1 f1 → OkS G ex W q Z1 H1 (fun a => InF F1 a ∨ a ∈ f1) De (k d ρ1)) (KX G ex W (quiet e) Z H σ F) :=
  h.st.imp (fun d ρ1 ok v Z1 H1 F1 f1 p => ok.ext (p.ext.wk hq)) fun x ρ' ok => ok.kx hq
/-- an expression whose value is held -/
theorem stC_at {e : E} {k : D → Env → RS} {q : Bool} {Z H : Hp} {σ : L2.St} {ρ : Env} {F : Fp} {De : Ends} (hq : q = true → quiet e = true) (h : OkS G ex W q Z H (InF F) De ((evC T e ρ).st k)) :
    Okk (evE T e ρ) (fun d ρ1 => ∀ v Z1 H1 F1 f1, EPost G ex (pur e) (quiet e) (isPlace e) Z H σ F d ρ1 v Z1 H1 F1 f1 → EPost G ex (pur e) (quiet e) false Z H σ F d ρ1 v Z1 H1 F1 f1 ∧ OkS G ex W q Z1 H1 (fun a => InF F1 a ∨ a ∈ f1) De (k d ρ1)) (KX G ex W (quiet e) Z H σ F) := by
  refine (Okk.bind (show Okk ((evE T e ρ).bind _) _ _ from h.st)).imp (fun d ρ1 ok v Z1 H1 F1 f1 p => ?_) fun x ρ' ok => ok.kx hq
  obtain ⟨hc, ok⟩ := Okk.ite ok
  exact ⟨p.unpl ((and_false_or hc).imp id not_false), ok.ext (p.ext.wk hq)⟩
/-- a test -/
theorem stT_at {e : E} {k : Bool → Env → RS} {q : Bool} {Z H : Hp} {σ : L2.St} {ρ : Env} {F : Fp} {De : Ends} (hq : q = true → quiet e = true) (h : OkS G ex W q Z H (InF F) De ((evT T e ρ).st k)) :
    Okk (evT T e ρ) (fun b ρ1 => ∀ Z1 H1 F1, EnvR G ex Z1 H1 σ ρ1 F1 → (pur e = true → F1 = F) → Ext (quiet e) Z H (InF F) Z1 H1 (InF F1) → OkS G ex W q Z1 H1 (InF F1) De (k b ρ1)) (KX G ex W (quiet e) Z H σ F) :=
  h.st.imp (fun d ρ1 ok Z1 H1 F1 _ _ x => ok.ext (x.wk hq)) fun x ρ' ok => ok.kx hq
abbrev tSS (G : Gx) (ex : Option (Nat × V)) (W : WX) (T : Tab) (s : S) : TS := tS G ex W (quietS s) (evS T s)
abbrev tBB (G : Gx) (ex : Option (Nat × V)) (W : WX) (T : Tab) (s : List S) : TS := tS G ex W (quietB s) (evB T s)
theorem pss_nilS : PSs X [] (tBB G ex W T []) := PSs.imp pss_nil fun D σ H ⟨Z, ρ, F, env, ok⟩ => by
  rw [evB] at ok
  exact ok σ Z H F env Ext.refl
theorem pss_consS {s : S} {ss : List S} {st : Stmt} {rest : List Stmt} (h1 : PS X st (tSS G ex W T s)) (h2 : PSs X rest (tBB G ex W T ss)) : PSs X (st :: rest) (tBB G ex W T (s :: ss)) := by
  refine PSs.imp (pss_cons h1 h2) fun D σ H ⟨Z, ρ, F, env, ok⟩ => ?_
  rw [evB] at ok
  refine ⟨Z, ρ, F, env, ?_⟩
  have hq1 : quietB (s :: ss) = true → quietS s = true := fun q => (andB q).1
  have hq2 : quietB (s :: ss) = true → quietB ss = true := fun q => (andB q).2
  cases hr : evS T s ρ with
  | nx ρ1 =>
    rw [hr] at ok
    intro σ1 Z1 H1 F1 e1 x1
    exact ⟨Z1, ρ1, F1, e1, (OkS.ext (x1.wk hq1) ok).wk hq2⟩
  | rt d ρ1 => rw [hr] at ok; exact OkS.wk ok hq1
  | bk ρ1 => rw [hr] at ok; exact OkS.wk ok hq1
  | ct ρ1 => rw [hr] at ok; exact OkS.wk ok hq1
  | ex x ρ1 => rw [hr] at ok; exact OkS.wk (D := D) ok hq1
  | stk => rw [hr] at ok; exact ok.elim
/-! ### one by one -/
def notComp : Expr → Bool
  | .ListComp _ _ _ _ => false
  | .SetComp _ _ _ _ => false
  | .DictComp _ _ _ _ _ => false
  | _ => true
theorem swaps_no {e : Expr} (h : notComp e = true) (t : Option Expr) (l : Nat) (env : PySem.Env) : swapsWith e t l env = pure false := by
  cases e <;> first | rfl | (cases h; done)
def notPair : Expr → Expr → Bool
  | .Tuple _ _ _, .Tuple _ _ _ => false
  | .List _ _, .Tuple _ _ _ => false
  | _, _ => true
theorem stores_no {t e : Expr} (h : notPair t e = true) (env : PySem.Env) : swappedStores [t] e env = pure none := by
  cases t <;> first
    | rfl
    | (cases e <;> first | rfl | (cases h; done))
/-- behind the value: the target -/
theorem asg_fin {tg : Tg} {e : E} {σ : L2.St} {H : Hp} {D : Ends} (h : tSS G ex W T (.asg tg e) D σ H) : tEE G ex W T e σ H fun v H1 => tG G ex tg v σ H1 D.nx := by
  obtain ⟨Z, ρ, F, env, ok⟩ := h
  rw [evS] at ok
  refine ⟨Z, ρ, F, env, (stC_at (fun q => q) ok).imp (fun d ρ1 q v Z1 H1 F1 f1 p => ?_) fun _ _ q => q⟩
  obtain ⟨p', ok1⟩ := q v Z1 H1 F1 f1 p
  obtain ⟨ρ2, ha, ok2⟩ := ok1.of
  refine ⟨Z1, ρ1, F1, d, f1, ρ2, p'.env, p'.rep, p'.nd, p'.val rfl, ha, fun σ' F' e' s' _ _ => ok2 σ' Z1 H1 F' e' (Ext.refl.imp fun a h => s' a h)⟩
theorem asg_sound (hX : XOk G c lv ex W X) {tg : Tg} {e : E} {t x : Expr} {pos : Pos} (hx : PE X x (tEE G ex W T e)) (ht : tgB c tg t = true) (h1 : notComp x = true) (h2 : notPair t x = true) : PS X (.Assign [t] x pos) (tSS G ex W T (.asg tg e)) :=
  PS.imp (ps_asg hx (pg_sound hX tg t ht) (swaps_no h1 _ _ _) (stores_no h2 _) (by rw [tgB_plain ht]; rfl)) fun D σ H h => asg_fin h
theorem expr_sound {e : E} {x : Expr} {pos : Pos} (hx : PE X x (tEE G ex W T e)) (h1 : notComp x = true) : PS X (.Expr x pos) (tSS G ex W T (.expr e)) := by
  refine PS.imp (ps_expr hx (swaps_no h1 _ _ _)) fun D σ H ⟨Z, ρ, F, env, ok⟩ => ?_
  rw [evS] at ok
  exact ⟨Z, ρ, F, env, (st_at (fun q => q) ok).imp (fun d ρ1 q v Z1 H1 F1 f1 p => q v Z1 H1 F1 f1 p σ Z1 H1 F1 p.env (Ext.refl.imp fun a h => .inl h)) fun _ _ q => q⟩
theorem ret_sound {e : E} {x : Expr} {pos : Pos} (hx : PE X x (tEE G ex W T e)) : PS X (.Return (some x) pos) (tSS G ex W T (.ret e)) := by
  refine PS.imp (ps_ret hx) fun D σ H ⟨Z, ρ, F, env, ok⟩ => ?_
  rw [evS] at ok
  refine ⟨Z, ρ, F, env, (stC_at (fun q => q) ok).imp (fun d ρ1 q v Z1 H1 F1 f1 p => ?_) fun _ _ q => q⟩
  obtain ⟨p', ok1⟩ := q v Z1 H1 F1 f1 p
  exact ok1 v σ Z1 H1 F1 f1 p'.env p'.rep p'.nd (p'.val rfl) Ext.refl
theorem retN_sound {pos : Pos} : PS X (.Return none pos) (tSS G ex W T .retN) := by
  refine PS.imp ps_retN fun D σ H ⟨Z, ρ, F, env, ok⟩ => ?_
  rw [evS] at ok
  exact ok .non σ Z H F [] env ⟨rfl, rfl⟩ List.nodup_nil (fun _ h => nomatch h) (Ext.refl.imp fun a h => h.elim id fun q => nomatch q)
theorem pass_sound {pos : Pos} : PS X (.Pass pos) (tSS G ex W T .pass) := by
  refine PS.imp ps_pass fun D σ H ⟨Z, ρ, F, env, ok⟩ => ?_
  rw [evS] at ok
  exact ok σ Z H F env Ext.refl
theorem brk_sound {pos : Pos} : PS X (.Break pos) (tSS G ex W T .brk) := by
  refine PS.imp ps_break fun D σ H ⟨Z, ρ, F, env, ok⟩ => ?_
  rw [evS] at ok
  exact ok σ Z H F env Ext.refl
theorem cnt_sound {pos : Pos} : PS X (.Continue pos) (tSS G ex W T .cnt) := by
  refine PS.imp ps_continue fun D σ H ⟨Z, ρ, F, env, ok⟩ => ?_
  rw [evS] at ok
  exact ok σ Z H F env Ext.refl
theorem if_sound {e : E} {a b : List S} {x : Expr} {p q : List Stmt} {pos : Pos} (hc : PT X x (tTT G ex W T e)) (ha : PSs X p (tBB G ex W T a)) (hb : PSs X q (tBB G ex W T b)) : PS X (.If x p q pos) (tSS G ex W T (.ifs e a b)) := by
  refine PS.imp (ps_if hc ha hb) fun D σ H ⟨Z, ρ, F, env, ok⟩ => ?_
  rw [evS] at ok
  refine ⟨Z, ρ, F, env, (stT_at (fun q => (andB q).1) ok).imp (fun t ρ1 h Z1 H1 F1 e1 u1 x1 => ?_) fun _ _ q => q⟩
  have ok1 := h Z1 H1 F1 e1 u1 x1
  cases t with
  | true => exact ⟨Z1, ρ1, F1, e1, OkS.wk ok1 fun q => (andB (andB q).2).1⟩
  | false => exact ⟨Z1, ρ1, F1, e1, OkS.wk ok1 fun q => (andB (andB q).2).2⟩
/-! ### loops -/
theorem for_sound (hX : XOk G c lv ex W X) (hc : c.hot = false) {tg : Tg} {k : IK} {ies : List E} {body : List S} {t x : Expr} {b : List Stmt} {pos : Pos} (hi : PI X t x (tIt G ex W T k ies)) (ht : tgB c tg t = true) (hb : PSs X b (tBB G ex W T body)) (hp : plainX x = true) :
    PS X (.For t x b [] pos) (tSS G ex W T (.fors tg k ies body)) := by
  have hcalm : X.calm = true := by rw [hX.calm, hc]; rfl
  refine PS.imp (ps_for hX.po hcalm hi (pg_sound hX tg t ht) hb (folded_plain hp X.env)) fun D σ H ⟨Z0, ρ0, F0, env0, ok⟩ => ?_
  rw [evS] at ok
  have hq1 : quietS (.fors tg k ies body) = true → quiets ies = true := fun q => (andB q).1
  have hq2 : quietS (.fors tg k ies body) = true → quietB body = true := fun q => (andB q).2
  refine ⟨Z0, ρ0, F0, env0, ok.st.imp (fun ds ρ1 ok1 => ?_) fun x ρ' q => q.kx hq1⟩
  cases hit : iterD k ds with
  | none => rw [hit] at ok1; exact ok1.elim
  | some items =>
  rw [hit] at ok1
  obtain ⟨hck, ok2⟩ := OkS.iteN ok1
  obtain ⟨hst, hqb⟩ := bor_false hck
  have hqb : stills ds = true ∨ quietB body = true := (and_false_or hqb).imp not_false not_false
  refine ⟨items, rfl, not_false hst, fun Z1 H1 F1 J env1 hpu x1 hJ => ?_⟩
  obtain ⟨Gd, Y, walk, hJ⟩ := hJ
  have ok3 := (OkS.ext (x1.wk hq1) ok2).wk hq2
  generalize hbody : (fun (x : Pd.D) (ρ : Env) => match asg tg x ρ with
        | none => RS.stk
        | some ρ2 => evB T body ρ2) = bd at ok3
  let Pv : Nat → L2.St → Hp → Prop := fun i σ H => ∃ Z ρ F, EnvR G ex Z H σ ρ F ∧ L2.Same Z1 Z ∧ (quietB body = true → L2.Same H1 H) ∧ OkS G ex W (quietB body) Z H (InF F) D (loopF bd (items.drop i) ρ)
  refine for_it walk Pv ⟨Z1, ρ1, F1, env1, L2.Same.refl _, fun _ => L2.Same.refl _, ok3⟩ ?_ ?_ ?_
  · intro i σ H hi ⟨Z, ρ, F, env, zz, hh, okl⟩
    exact (hJ Z H zz env.sub (hqb.imp (fun q => by rw [q]; rfl) hh)).1
  · intro i x σ H H' hi ⟨Z, ρ, F, env, zz, hh, okl⟩ y
    obtain ⟨Z', d, fr, hd, rx⟩ := (hJ Z H zz env.sub (hqb.imp (fun q => by rw [q]; rfl) hh)).2 i x H' hi y
    have hdrop : items.drop i = d :: items.drop (i + 1) := by
      rw [List.drop_eq_getElem_cons hi]
      rw [List.getElem?_eq_getElem hi] at hd
      rw [Option.some.inj hd]
    rw [hdrop, loopF] at okl
    have okl := OkS.ext (P1 := InF F) (fr.ext (q := quietB body) fun a h => .inl h) okl
    have hbd : bd d ρ = match asg tg d ρ with
        | none => RS.stk
        | some ρ2 => evB T body ρ2 := by rw [← hbody]
    cases ha : asg tg d ρ with
    | none =>
      rw [ha] at hbd
      have hbd : bd d ρ = RS.stk := hbd
      rw [hbd] at okl
      exact okl.elim
    | some ρ2 =>
    rw [ha] at hbd
    replace hbd : bd d ρ = evB T body ρ2 := hbd
    rw [hbd] at okl
    refine ⟨Z', ρ, F, d, [], ρ2, env.fr fr, rx, List.nodup_nil, fun a h => (nomatch h), ha, fun σ2 F2 e2 s2 l2 k2 => ?_⟩
    have F2F : ∀ a, InF F2 a → InF F a := fun a h => (s2 a h).resolve_right fun q => nomatch q
    have okl := OkS.ext (P1 := InF F2) (Ext.refl.imp F2F) okl
    refine ⟨Z', ρ2, F2, e2, ?_⟩
    have nxt : ∀ ρ3, OkS G ex W (quietB body) Z' H' (InF F2) D (loopF bd (items.drop (i + 1)) ρ3) → ∀ σ' Z3 H3 F3, EnvR G ex Z3 H3 σ' ρ3 F3 → Ext (quietB body) Z' H' (InF F2) Z3 H3 (InF F3) → Pv (i + 1) σ' H3 :=
      fun ρ3 okn σ' Z3 H3 F3 e3 x3 => ⟨Z3, ρ3, F3, e3, (zz.trans fr.zz).trans x3.zz, fun q => ((hh q).trans fr.hh).trans fun a o h => x3.fr a o h (.inl q), OkS.ext x3 okn⟩
    cases hr : evB T body ρ2 with
    | nx ρ3 => rw [hr] at okl; exact nxt ρ3 okl
    | ct ρ3 => rw [hr] at okl; exact nxt ρ3 okl
    | bk ρ3 => rw [hr] at okl; exact okl
    | rt d ρ3 => rw [hr] at okl; exact okl
    | ex x ρ3 => rw [hr] at okl; exact okl
    | stk => rw [hr] at okl; exact okl.elim
  · intro σ H ⟨Z, ρ, F, env, zz, hh, okl⟩
    rw [List.drop_eq_nil_of_le (Nat.le_refl _), loopF] at okl
    exact okl σ Z H F env Ext.refl
theorem while_sound (hX : XOk G c lv ex W X) {n : Nat} {e : E} {body : List S} {x : Expr} {b : List Stmt} {pos : Pos} (hc : PT X x (tTT G ex W T e)) (hb : PSs X b (tBB G ex W T body)) : PS X (.While x b [] pos) (tSS G ex W T (.whl n e body)) := by
  refine PS.imp (ps_while hX.po hc hb) fun D σ H ⟨Z0, ρ0, F0, env0, ok⟩ => ?_
  rw [evS] at ok
  have hq1 : quietS (.whl n e body) = true → quiet e = true := fun q => (andB q).1
  have hq2 : quietS (.whl n e body) = true → quietB body = true := fun q => (andB q).2
  generalize quietS (.whl n e body) = q at ok hq1 hq2
  refine ⟨fun m σ H => ∃ Z ρ F, EnvR G ex Z H σ ρ F ∧ OkS G ex W q Z H (InF F) D (loopW (evT T e) (evB T body) m ρ), ⟨n, Z0, ρ0, F0, env0, ok⟩, ?_⟩
  intro m σ H ⟨Z, ρ, F, env, ok⟩
  cases m with
  | zero => rw [loopW] at ok; exact ok.elim
  | succ m =>
    rw [loopW] at ok
    refine ⟨Z, ρ, F, env, ?_⟩
    cases hr : evT T e ρ with
    | stk => rw [hr] at ok; exact ok.elim
    | exn x ρ1 => rw [hr] at ok; exact OkS.kx ok hq1
    | ok t ρ1 =>
      rw [hr] at ok
      intro Z1 H1 F1 e1 u1 x1
      cases t with
      | false => exact ok σ Z1 H1 F1 e1 (x1.wk hq1)
      | true =>
        have ok := OkS.ext (x1.wk hq1) ok
        refine ⟨fun σ' H' => ∃ Z ρ F, EnvR G ex Z H' σ' ρ F ∧ OkS G ex W q Z H' (InF F) D (loopW (evT T e) (evB T body) m ρ), fun σ' H' h => ⟨m, Nat.lt_succ_self m, h⟩, Z1, ρ1, F1, e1, ?_⟩
        have nxt : ∀ ρ3, OkS G ex W q Z1 H1 (InF F1) D (loopW (evT T e) (evB T body) m ρ3) → ∀ σ' Z3 H3 F3, EnvR G ex Z3 H3 σ' ρ3 F3 → Ext (quietB body) Z1 H1 (InF F1) Z3 H3 (InF F3) → ∃ Z ρ F, EnvR G ex Z H3 σ' ρ F ∧ OkS G ex W q Z H3 (InF F) D (loopW (evT T e) (evB T body) m ρ) :=
          fun ρ3 okn σ' Z3 H3 F3 e3 x3 => ⟨Z3, ρ3, F3, e3, OkS.ext (x3.wk hq2) okn⟩
        dsimp only at ok
        cases hr2 : evB T body ρ1 with
        | nx ρ3 => rw [hr2] at ok; exact nxt ρ3 ok
        | ct ρ3 => rw [hr2] at ok; exact nxt ρ3 ok
        | bk ρ3 => rw [hr2] at ok; exact OkS.wk (r := .nx ρ3) ok hq2
        | rt d ρ3 => rw [hr2] at ok; exact OkS.wk (r := .rt d ρ3) ok hq2
        | ex x ρ3 => rw [hr2] at ok; exact OkS.wk (D := D) (r := .ex x ρ3) ok hq2
        | stk => rw [hr2] at ok; exact ok.elim
end
end Pd

set_option Elab.async false
set_option linter.all false
set_option maxRecDepth 100000
set_option maxHeartbeats 2000000
/-! PdP: what a slot holds alone is changed. -/
namespace Pd
open PySem PySem.Spec PyProof.Rows L2
section
variable {G : Gx} {c : Ck} {lv : Nat} {ex : Option (Nat × V)} {W : WX} {X : Cx} {T : Tab}
/-- the object at the head of a slot is changed -/
theorem EnvR.chg {Z H : Hp} {σ : L2.St} {ρ : Env} {F : Fp} {i : Nat} {a : Addr} {g f : List Addr} {o u : HO} {d0 d : D} (env : EnvR G ex Z H σ ρ F) (hi : ρ[i]? = some (some d0)) (hv : σ[i]? = some (some (.ref a))) (hF : F i = a :: g) (hz : Z a = none) (ha : H a = some u)
    (r : Rep G Z (L2.upd H a o) d (.ref a) (a :: f)) (nd : (a :: f).Nodup) (out : ∀ b ∈ f, ∀ j, j ≠ i → b ∉ F j) :
    EnvR G ex Z (L2.upd H a o) σ (ρ.set i (some d)) (upF F i (a :: f)) ∧ Ext false Z H (fun b => InF F b ∨ b ∈ f) Z (L2.upd H a o) (InF (upF F i (a :: f))) := by
  have hlt := getSlot hi
  have e1 := env.put2 hlt (x := none) (y := some (.ref a)) (f := []) hv (fun d q => nomatch q) (fun _ => rfl) List.nodup_nil (fun a ha => nomatch ha)
  have hna : ¬ InF (upF F i []) a := fun q => by
    rcases inF_up q with q | ⟨j, hj, q⟩
    · cases q
    · exact hj (env.dj j i a q (by rw [hF]; exact List.mem_cons_self))
  have e2 := e1.upd (o := o) hz hna
  have e3 := e2.put2 (by rw [List.length_set]; exact hlt) (x := some d) (y := some (.ref a)) (f := a :: f) hv (fun d' q => by cases q; exact ⟨_, rfl, r⟩) (fun q => nomatch q) nd (fun b hb j hj q => by
    rw [upF_ne hj] at q
    rcases List.mem_cons.mp hb with rfl | hb
    · exact hj (env.dj j i _ q (by rw [hF]; exact List.mem_cons_self))
    · exact out b hb j hj q)
  rw [List.set_set] at e3
  have hup : upF (upF F i []) i (a :: f) = upF F i (a :: f) := by
    funext j
    by_cases q : j = i
    · subst q; rw [upF_same, upF_same]
    · rw [upF_ne q, upF_ne q, upF_ne q]
  rw [hup] at e3
  refine ⟨e3, L2.Same.refl _, fun b o' e q => ?_, fun b o' e n => (by rw [n] at e; cases e), fun b hb => ?_⟩
  · have hba : b ≠ a := fun q' => by
      rcases q with q | q
      · cases q
      · exact q (.inl ⟨i, by rw [hF, q']; exact List.mem_cons_self⟩)
    rw [upd_ne hba]
    exact e
  · rcases inF_up hb with q | ⟨j, hj, q⟩
    · rcases List.mem_cons.mp q with rfl | q
      · exact .inl (.inl ⟨i, by rw [hF]; exact List.mem_cons_self⟩)
      · exact .inl (.inr q)
    · exact .inl (.inl ⟨j, q⟩)
/-- what a slot with a changeable list holds -/
theorem slot_mls {Z H : Hp} {σ : L2.St} {ρ : Env} {F : Fp} {i : Nat} {ds : List D} (env : EnvR G ex Z H σ ρ F) (hi : ρ[i]? = some (some (.mls ds))) : ∃ a vs g, σ[i]? = some (some (.ref a)) ∧ H a = some (.lst vs) ∧ Z a = none ∧ Reps G Z H ds vs g ∧ F i = a :: g ∧ a ∉ g ∧ g.Nodup := by
  obtain ⟨v, hv, r⟩ := env.at_ i _ hi
  obtain ⟨a, vs, g, e, s, z, r, q⟩ := r
  subst e
  have nd := env.nd i
  rw [q] at nd
  exact ⟨a, vs, g, hv, s, z, r, q, (List.nodup_cons.mp nd).1, (List.nodup_cons.mp nd).2⟩
theorem isL_some {o : Option (Option D)} (h : isL o = true) : ∃ ds, o = some (some (.mls ds)) := by
  unfold isL at h
  split at h
  · exact ⟨_, rfl⟩
  · cases h
/-- slot.append(e) -/
theorem app_sound (hX : XOk G c lv ex W X) {i : Nat} {e : E} {n : Str} {x : Expr} {p2 apos cpos pos : Pos} (hs : slotB c i n = true) (hx : PE X x (tEE G ex W T e)) (hp : plainX x = true) (hl : (apos.endLine == cpos.line) = true) :
    PS X (.Expr (.Call (.Attribute (.Name n p2) "append" apos) [x] [] cpos) pos) (tSS G ex W T (.app i e)) := by
  obtain ⟨v1, v2, v3, v4⟩ := slotB_ok hX hs
  refine PS.imp (ps_expr (pe_bm F.plainAttrs_list F.slot_list_append F.type_list_append mt_append (pe_var v1 v2 v3 v4) (pa_cons hx pa_nil (star_eq hp _ _)) rfl (by rw [star1 hp]; rfl) hl (star_eq hp _ _) rfl) rfl) fun D σ H ⟨Z, ρ, F, env, ok⟩ => ?_
  rw [evS] at ok
  obtain ⟨h0, ok⟩ := OkS.iteN ok
  obtain ⟨ds0, hi0⟩ := isL_some (not_false h0)
  obtain ⟨a, vs0, g0, hv, hH0, hz0, _⟩ := slot_mls env hi0
  refine ⟨.ref a, hv, .inl ⟨rfl, vs0, .inl (.inl hH0)⟩, Z, ρ, F, env, (stC_at (q := false) (fun q => nomatch q) ok).imp (fun d ρ1 h v Z1 H1 F1 f1 p => ?_) fun _ _ q => q⟩
  obtain ⟨p', ok1⟩ := h v Z1 H1 F1 f1 p
  split at ok1
  · rename_i d1 hi
    obtain ⟨ρ2, ho, ok2⟩ := ok1.of
    obtain ⟨d2, ha, rfl⟩ := map_some ho
    cases d1 with
    | mls ds =>
      obtain ⟨hlt, rfl⟩ := if_some (show (if lineLt ds = true then some (Pd.D.mls (ds ++ [d])) else none) = some d2 from ha)
      obtain ⟨a', vs, g, hv', hH, hz, r, hF, hna, ng⟩ := slot_mls p'.env hi
      rw [hv] at hv'
      cases hv'
      have hlt : ds.length < 16777216 := of_decide_eq_true hlt
      have hf1 : a ∉ f1 := fun q => p'.val rfl a q ⟨i, by rw [hF]; exact List.mem_cons_self⟩
      have hgf : ∀ b ∈ g, b ∉ f1 := fun b hb q => p'.val rfl b q ⟨i, by rw [hF]; exact List.mem_cons_of_mem _ hb⟩
      have r2 : Reps G Z1 (upd H1 a (.lst (vs ++ [v]))) (ds ++ [d]) (vs ++ [v]) (g ++ (f1 ++ [])) := reps_app (r.upd hna) ⟨v, [], f1, [], rfl, p'.rep.upd hf1, ⟨rfl, rfl⟩, rfl⟩
      rw [List.append_nil] at r2
      obtain ⟨e3, x3⟩ := p'.env.chg (o := .lst (vs ++ [v])) (d := .mls (ds ++ [d])) (f := g ++ f1) hi hv hF hz hH ⟨a, vs ++ [v], g ++ f1, rfl, by rw [upd_same], hz, r2, rfl⟩
        (List.nodup_cons.mpr ⟨fun q => (List.mem_append.mp q).elim hna hf1, List.nodup_append.mpr ⟨ng, p'.nd, fun b hb b' hb' e => hgf b hb (e ▸ hb')⟩⟩)
        (fun b hb j hj q => by
          rcases List.mem_append.mp hb with hb | hb
          · exact hj (p'.env.dj j i b q (by rw [hF]; exact List.mem_cons_of_mem _ hb))
          · exact p'.val rfl b hb ⟨j, q⟩)
      refine ⟨a, vs, v, rfl, rfl, hH, by rw [reps_len r]; exact hlt, ok2 σ Z1 _ _ e3 ⟨x3.zz, fun b o e q => x3.fr b o e (q.imp id fun q q' => ?_), fun b o e n => (x3.nz b o e n).imp (fun q => ?_) id, fun b hb => (x3.np b hb).imp (fun q => ?_) id⟩⟩
      · rcases q' with q' | q'
        · exact q (.inl q')
        · rcases List.mem_append.mp q' with q' | q'
          · exact q (.inl ⟨i, by rw [hF]; exact List.mem_cons_of_mem _ q'⟩)
          · exact q (.inr q')
      all_goals
        rcases q with q | q
        · exact .inl q
        · rcases List.mem_append.mp q with q | q
          · exact .inl ⟨i, by rw [hF]; exact List.mem_cons_of_mem _ q⟩
          · exact .inr q
    | _ => cases ha
  · exact ok1.elim
/-! ### slot op= e -/
def augOf : Op → Option Operator
  | .add => some .Add | .bor => some .BitOr | .bxor => some .BitXor | .band => some .BitAnd | .sub => some .Sub | .mul => some .Mult
  | _ => none
/-- two ints, or two texts that are put together -/
def rA (o : Op) : R2 := fun x y H Q => (∃ i j k, x = .int i ∧ y = .int j ∧ opD o [.int i, .int j] = some (.int k) ∧ Q (.int k) H) ∨ ∃ i j, o = .add ∧ x = .str i ∧ y = .str j ∧ i.length + j.length ≤ 16777216 ∧ Q (.str (i ++ j)) H
theorem mulOk_c {i j : Int} (h : mulOk i j = true) : IntMulOk i j := by
  unfold mulOk at h
  rcases Bool.or_eq_true_iff.mp h with h | h
  · exact CMul.ok (.inl (of_decide_eq_true h))
  · rcases Bool.or_eq_true_iff.mp h with h | h
    · exact CMul.ok (.inr (of_decide_eq_true h))
    · exact CMulX.ok (show (Builtin.Int.intBits i : Int) + (Builtin.Int.intBits j : Int) ≤ 134217728 from of_decide_eq_true h)
theorem iop_mulM : OpR X (inplaceOp .Mult) (rI (fun i j => mulOk i j = true) fun i j => .int (i * j)) := opI fun _ _ _ _ _ _ _ hc q => imul_int q (mulOk_c hc)
theorem aug_rule {o : Op} {op : Operator} (h : augOf o = some op) : OpR X (inplaceOp op) (rA o) := by
  intro pins s σ H x y v u Q I rx ry q
  rcases q with ⟨i, j, k, ex, ey, e, q⟩ | ⟨i, j, ho, ex, ey, hl, q⟩
  · have e : opD o [.int i, .int j] = some (.int k) := e
    cases o with
    | add => cases h; cases (show some (D.int (i + j)) = some (.int k) from e); exact iop_add pins s σ H x y v u Q I rx ry ⟨i, j, ex, ey, q⟩
    | sub => cases h; cases (show some (D.int (i - j)) = some (.int k) from e); exact iop_sub pins s σ H x y v u Q I rx ry ⟨i, j, ex, ey, q⟩
    | band => cases h; cases (show some (D.int (Builtin.bitAnd i j)) = some (.int k) from e); exact iop_and pins s σ H x y v u Q I rx ry ⟨i, j, ex, ey, q⟩
    | bor => cases h; cases (show some (D.int (Builtin.bitOr i j)) = some (.int k) from e); exact iop_or pins s σ H x y v u Q I rx ry ⟨i, j, ex, ey, q⟩
    | bxor => cases h; cases (show some (D.int (Builtin.bitXor i j)) = some (.int k) from e); exact iop_xor pins s σ H x y v u Q I rx ry ⟨i, j, ex, ey, q⟩
    | mul =>
      cases h
      obtain ⟨hm, hk⟩ := if_some (show (if mulOk i j = true then some (D.int (i * j)) else none) = some (.int k) from e)
      cases hk
      exact iop_mulM pins s σ H x y v u Q I rx ry ⟨i, j, ex, ey, hm, q⟩
    | _ => cases h
  · subst ho
    cases h
    exact iop_add_str pins s σ H x y v u Q I rx ry ⟨i, j, ex, ey, hl, q⟩
theorem aug_sound (hX : XOk G c lv ex W X) {i : Nat} {o : Op} {op : Operator} {e : E} {n : Str} {x : Expr} {p pos : Pos} (ho : augOf o = some op) (hs : stB c i n = true) (hne : c.exi ≠ some i) (hx : PE X x (tEE G ex W T e)) :
    PS X (.AugAssign (.Name n p) op x pos) (tSS G ex W T (.aug i o e)) := by
  obtain ⟨k1, k2, k3⟩ := stB_ok hX hs
  refine PS.imp (ps_aug (ti := rA o) hX.ndN k1 k2 hx (aug_rule ho) k3) fun D σ H ⟨Z, ρ, F, env, ok⟩ => ?_
  rw [evS] at ok
  split at ok
  · rename_i d0 hi
    obtain ⟨v0, hv0, r0⟩ := env.at_ i d0 hi
    obtain ⟨hp, ok⟩ := OkS.iteS ok
    refine ⟨v0, hv0, Z, ρ, F, env, (st_at (q := quiet e) (fun q => q) ok).imp (fun d ρ1 h v Z1 H1 F1 f1 p1 => ?_) fun _ _ q => q⟩
    have ok1 := h v Z1 H1 F1 f1 p1
    have fin : ∀ (z : Pd.D) (w : V), (∀ Z H, Rep G Z H z w []) → i < ρ1.length → OkS G ex W (quiet e) Z1 H1 (fun a => InF F1 a ∨ a ∈ f1) D (.nx (ρ1.set i (some z))) → D.nx (σ.set i (some w)) H1 := by
      intro z w rz hlt okn
      have e1 := p1.env.put hlt (x := some z) (y := some w) (f := []) (fun d' q => by cases q; exact ⟨w, rfl, rz Z1 H1⟩) (fun q => nomatch q) List.nodup_nil (fun a ha => nomatch ha) (fun j a q e => hne (by rw [← e]; exact hX.exi j a q))
      refine okn _ Z1 H1 _ e1 (Ext.refl.imp fun a ha => ?_)
      rcases inF_up ha with q | ⟨j, _, q⟩
      · cases q
      · exact .inl ⟨j, q⟩
    have hlt : i < ρ1.length := by
      have h1 := getSlot hi
      have h2 := env.len
      have h3 := p1.env.len
      omega
    cases d0 with
    | int a =>
      cases d with
      | int b =>
        obtain ⟨ρ2, he, ok2⟩ := OkS.of ok1
        obtain ⟨z, hz, rfl⟩ := map_some he
        have hk : ∃ k, z = .int k := by
          cases o with
          | add => exact ⟨_, (Option.some.inj (show some (Pd.D.int (a + b)) = some z from hz)).symm⟩
          | sub => exact ⟨_, (Option.some.inj (show some (Pd.D.int (a - b)) = some z from hz)).symm⟩
          | band => exact ⟨_, (Option.some.inj (show some (Pd.D.int (Builtin.bitAnd a b)) = some z from hz)).symm⟩
          | bor => exact ⟨_, (Option.some.inj (show some (Pd.D.int (Builtin.bitOr a b)) = some z from hz)).symm⟩
          | bxor => exact ⟨_, (Option.some.inj (show some (Pd.D.int (Builtin.bitXor a b)) = some z from hz)).symm⟩
          | mul => exact ⟨_, (if_some (show (if mulOk a b = true then some (Pd.D.int (a * b)) else none) = some z from hz)).2.symm⟩
          | _ => cases ho
        obtain ⟨k, rfl⟩ := hk
        exact .inl ⟨a, b, k, r0.1, p1.rep.1, hz, fin (.int k) (.int k) (fun _ _ => ⟨rfl, rfl⟩) hlt ok2⟩
      | _ => exact ok1.elim
    | str a =>
      cases d with
      | str b =>
        cases o with
        | add =>
          obtain ⟨ρ2, he, ok2⟩ := OkS.of ok1
          obtain ⟨z, hz, rfl⟩ := map_some he
          obtain ⟨hl, rfl⟩ := if_some (show (if a.length + b.length ≤ 16777216 then some (Pd.D.str (a ++ b)) else none) = some z from hz)
          exact .inr ⟨a, b, rfl, r0.1, p1.rep.1, hl, fin (.str (a ++ b)) (.str (a ++ b)) (fun _ _ => ⟨rfl, rfl⟩) hlt ok2⟩
        | _ => exact ok1.elim
      | _ => exact ok1.elim
    | _ => exact ok1.elim
  · exact ok.elim
/-! ### slot.f = e -/
theorem put_f {Z H : Hp} {f : Str} {d' : D} {w : V} {f1 : List Addr} (r' : Rep G Z H d' w f1) : ∀ {ns : List Str} {ds : List D} {vs : List V} {g : List Addr}, ns.length = ds.length → Reps G Z H ds vs g →
    ∃ vs' g', putF f w (ns.zip vs) = (putFd f d' ns ds).1.zip vs' ∧ (putFd f d' ns ds).1.length = (putFd f d' ns ds).2.length ∧ Reps G Z H (putFd f d' ns ds).2 vs' g' ∧ (∀ b ∈ g', b ∈ g ∨ b ∈ f1) ∧ ((g ++ f1).Nodup → g'.Nodup)
  | [], [], vs, g, _, r => by
    obtain ⟨rfl, rfl⟩ := r
    exact ⟨[w], f1, rfl, rfl, ⟨w, [], f1, [], rfl, r', ⟨rfl, rfl⟩, by simp⟩, fun b hb => .inr hb, fun h => h⟩
  | [], _ :: _, _, _, h, _ => nomatch h
  | _ :: _, [], _, _, h, _ => nomatch h
  | n :: ns, d :: ds, vs, g, hl, r => by
    obtain ⟨v, vs0, g1, g2, rfl, r1, r2, rfl⟩ := r
    rw [putFd, List.zip_cons_cons, putF]
    by_cases q : n = f
    · subst q
      rw [if_pos rfl, if_pos rfl]
      refine ⟨w :: vs0, f1 ++ g2, rfl, hl, ⟨w, vs0, f1, g2, rfl, r', r2, rfl⟩, fun b hb => ?_, fun h => ?_⟩
      · rcases List.mem_append.mp hb with hb | hb
        · exact .inr hb
        · exact .inl (List.mem_append_right _ hb)
      · obtain ⟨h1, h2, h3⟩ := List.nodup_append.mp h
        obtain ⟨h4, h5, h6⟩ := List.nodup_append.mp h1
        exact List.nodup_append.mpr ⟨h2, h5, fun a ha b hb e => h3 b (List.mem_append_right _ hb) a ha e.symm⟩
    · rw [if_neg q, if_neg q]
      obtain ⟨vs', g', h1, h2, h3, h4, h5⟩ := put_f (f := f) r' (Nat.succ.inj hl) r2
      refine ⟨v :: vs', g1 ++ g', by rw [h1]; rfl, congrArg (· + 1) h2, ⟨v, vs', g1, g', rfl, r1, h3, rfl⟩, fun b hb => ?_, fun h => ?_⟩
      · rcases List.mem_append.mp hb with hb | hb
        · exact .inl (List.mem_append_left _ hb)
        · exact (h4 b hb).imp (List.mem_append_right _) id
      · rw [List.append_assoc] at h
        obtain ⟨k1, k2, k3⟩ := List.nodup_append.mp h
        exact List.nodup_append.mpr ⟨k1, h5 k2, fun a ha b hb => k3 a ha b (List.mem_append.mpr (h4 b hb))⟩
theorem swaps_attr {e o : Expr} {f : Str} {p : Pos} (l : Nat) (env : PySem.Env) : swapsWith e (some (.Attribute o f p)) l env = pure false := by
  cases e <;> rfl
theorem setfld_sound (hX : XOk G c lv ex W X) (hf : ∀ c' f, T.flds.contains (c', f) = true → Cls G.K (G.cad c') ∧ NoAttr G.K (G.cad c') f) {i : Nat} {f : Str} {e : E} {n : Str} {x : Expr} {p2 p' pos : Pos} (hs : slotB c i n = true) (hx : PE X x (tEE G ex W T e)) :
    PS X (.Assign [.Attribute (.Name n p2) f p'] x pos) (tSS G ex W T (.setfld i f e)) := by
  obtain ⟨v1, v2, v3, v4⟩ := slotB_ok hX hs
  refine PS.imp (ps_fld (pe_var v1 v2 v3 v4) hx (swaps_attr _ _)) fun D σ H ⟨Z, ρ, F, env, ok⟩ => ?_
  rw [evS] at ok
  refine ⟨Z, ρ, F, env, (stC_at (q := false) (fun q => nomatch q) ok).imp (fun d ρ1 h v Z1 H1 F1 f1 p1 => ?_) fun _ _ q => q⟩
  obtain ⟨p', ok1⟩ := h v Z1 H1 F1 f1 p1
  split at ok1
  · rename_i c' ns ds hi
    obtain ⟨hc, ok2⟩ := OkS.iteS ok1
    obtain ⟨hfl, hn⟩ := andB hc
    have hn : ns.length < 900 := of_decide_eq_true hn
    obtain ⟨k1, k2⟩ := hf c' f hfl
    obtain ⟨v0, hv, r⟩ := p'.env.at_ i _ hi
    obtain ⟨a, dx, vs, g, e1, s, z, l, r, hF⟩ := r
    subst e1
    have nd := p'.env.nd i
    rw [hF] at nd
    obtain ⟨hna, ng⟩ := List.nodup_cons.mp nd
    have hf1 : a ∉ f1 := fun q => p'.val rfl a q ⟨i, by rw [hF]; exact List.mem_cons_self⟩
    have hgf : ∀ b ∈ g, b ∉ f1 := fun b hb q => p'.val rfl b q ⟨i, by rw [hF]; exact List.mem_cons_of_mem _ hb⟩
    obtain ⟨vs', g', q1, q2, q3, q4, q5⟩ := put_f (f := f) p'.rep l r
    have hag : a ∉ g' := fun q => (q4 a q).elim hna hf1
    have ng' : g'.Nodup := q5 (List.nodup_append.mpr ⟨ng, p'.nd, fun b hb b' hb' e => hgf b hb (e ▸ hb')⟩)
    obtain ⟨e3, x3⟩ := p'.env.chg (o := .ins (G.cad c') dx (putF f v (ns.zip vs))) (d := .mns c' (putFd f d ns ds).1 (putFd f d ns ds).2) (f := g') hi hv hF z s
      ⟨a, dx, vs', g', rfl, by rw [upd_same, q1], z, q2, q3.upd hag, rfl⟩ (List.nodup_cons.mpr ⟨hag, ng'⟩) (fun b hb j hj q => by
        rcases q4 b hb with hb | hb
        · exact hj (p'.env.dj j i b q (by rw [hF]; exact List.mem_cons_of_mem _ hb))
        · exact p'.val rfl b hb ⟨j, q⟩)
    have hz : (ns.zip vs).length < 1000 := by rw [List.length_zip]; omega
    refine ⟨.ref a, hv, a, G.cad c', dx, ns.zip vs, rfl, s, by rw [hX.K]; exact k1, by rw [hX.K]; exact k2, hz, ok2 σ Z1 _ _ e3 ⟨x3.zz, fun b o e q => x3.fr b o e (q.imp id fun q q' => ?_), fun b o e n => (x3.nz b o e n).imp (fun q => ?_) id, fun b hb => (x3.np b hb).imp (fun q => ?_) id⟩⟩
    · rcases q' with q' | q'
      · exact q (.inl q')
      · rcases q4 b q' with q' | q'
        · exact q (.inl ⟨i, by rw [hF]; exact List.mem_cons_of_mem _ q'⟩)
        · exact q (.inr q')
    all_goals
      rcases q with q | q
      · exact .inl q
      · rcases q4 b q with q | q
        · exact .inl ⟨i, by rw [hF]; exact List.mem_cons_of_mem _ q⟩
        · exact .inr q
  · exact ok1.elim
/-! ### slot[k] = e -/
theorem reps_set {Z H : Hp} {d' : D} {w : V} {f1 : List Addr} (r' : Rep G Z H d' w f1) : ∀ {ds : List D} {vs : List V} {g : List Addr} (j : Nat), Reps G Z H ds vs g →
    ∃ g', Reps G Z H (ds.set j d') (vs.set j w) g' ∧ (∀ b ∈ g', b ∈ g ∨ b ∈ f1) ∧ ((g ++ f1).Nodup → g'.Nodup)
  | [], vs, g, j, r => by
    obtain ⟨rfl, rfl⟩ := r
    exact ⟨[], ⟨rfl, rfl⟩, fun b hb => (nomatch hb), fun _ => List.nodup_nil⟩
  | d :: ds, vs, g, 0, r => by
    obtain ⟨v, vs0, g1, g2, rfl, r1, r2, rfl⟩ := r
    refine ⟨f1 ++ g2, ⟨w, vs0, f1, g2, rfl, r', r2, rfl⟩, fun b hb => ?_, fun h => ?_⟩
    · rcases List.mem_append.mp hb with hb | hb
      · exact .inr hb
      · exact .inl (List.mem_append_right _ hb)
    · obtain ⟨h1, h2, h3⟩ := List.nodup_append.mp h
      obtain ⟨h4, h5, h6⟩ := List.nodup_append.mp h1
      exact List.nodup_append.mpr ⟨h2, h5, fun a ha b hb e => h3 b (List.mem_append_right _ hb) a ha e.symm⟩
  | d :: ds, vs, g, j + 1, r => by
    obtain ⟨v, vs0, g1, g2, rfl, r1, r2, rfl⟩ := r
    obtain ⟨g', h3, h4, h5⟩ := reps_set r' j r2
    refine ⟨g1 ++ g', ⟨v, vs0.set j w, g1, g', rfl, r1, h3, rfl⟩, fun b hb => ?_, fun h => ?_⟩
    · rcases List.mem_append.mp hb with hb | hb
      · exact .inl (List.mem_append_left _ hb)
      · exact (h4 b hb).imp (List.mem_append_right _) id
    · rw [List.append_assoc] at h
      obtain ⟨k1, k2, k3⟩ := List.nodup_append.mp h
      exact List.nodup_append.mpr ⟨k1, h5 k2, fun a ha b hb => k3 a ha b (List.mem_append.mpr (h4 b hb))⟩
theorem swaps_sub {e o k : Expr} {p : Pos} (l : Nat) (env : PySem.Env) : swapsWith e (some (.Subscript o k p)) l env = pure false := by
  cases e <;> rfl
theorem assign_sub {o i : Expr} {pos : Pos} (h : plainX i = true) (env : PySem.Env) (v : Value) : assign (.Subscript o i pos) env v = (do
      let ov ← holding [v] (eval o env)
      let iv ← holding [v, ov] (eval i env)
      standAt pos
      holding [v, ov, iv] (setItem ov iv v)
      release [v, ov, iv] []) := by
  cases i <;> first | rfl | (cases h; done)
theorem setix_sound (hX : XOk G c lv ex W X) {i : Nat} {k e : E} {n : Str} {kx x : Expr} {p2 p' pos : Pos} (hs : slotB c i n = true) (hkp : plainX kx = true) (hk : PE X kx (tEE G ex W T k)) (hx : PE X x (tEE G ex W T e)) :
    PS X (.Assign [.Subscript (.Name n p2) kx p'] x pos) (tSS G ex W T (.setix i [] k e)) := by
  obtain ⟨v1, v2, v3, v4⟩ := slotB_ok hX hs
  refine PS.imp (ps_asg hx (pg_sub (pe_var v1 v2 v3 v4) hk set_list (assign_sub hkp X.env)) (by unfold swapsWithSole; exact swaps_sub _ _) (stores_no (by cases x <;> rfl) _)) fun D σ H ⟨Z, ρ, F, env, ok⟩ => ?_
  rw [evS] at ok
  refine ⟨Z, ρ, F, env, (stC_at (q := false) (fun q => nomatch q) ok).imp (fun d ρ1 h v Z1 H1 F1 f1 p1 => ?_) fun _ _ q => q⟩
  obtain ⟨p', ok1⟩ := h v Z1 H1 F1 f1 p1
  obtain ⟨hp, ok1⟩ := OkS.iteS ok1
  split at ok1
  · rename_i kk ρ2 hev
    have hρ := pur_env T k ρ1 hp _ _ hev
    subst hρ
    obtain ⟨ρ3, ho, ok2⟩ := ok1.of
    -- the slot
    have hu : ∃ ds j, ρ2[i]? = some (some (.mls ds)) ∧ ixD ds.length kk = some j ∧ ρ3 = ρ2.set i (some (.mls (ds.set j d))) := by
      unfold updP at ho
      simp only [pureP, if_true] at ho
      split at ho
      · rename_i d0 hi
        simp only [stq, Option.bind_some, getP] at ho
        obtain ⟨y, hy, rfl⟩ := map_some ho
        cases d0 with
        | mls ds =>
          obtain ⟨j, hj, rfl⟩ := map_some (show (ixD ds.length kk).map (fun j => Pd.D.mls (ds.set j d)) = some y from hy)
          exact ⟨ds, j, hi, hj, rfl⟩
        | _ => cases hy
      · cases ho
    obtain ⟨ds, j, hi, hj, rfl⟩ := hu
    obtain ⟨a, vs0, g0, hv, _, _, _, hF0, _⟩ := slot_mls p'.env hi
    refine ⟨.ref a, hv, Z1, ρ2, F1, p'.env, ?_⟩
    rw [hev]
    intro w Z2 H2 F2 f2 p2
    have hF : F2 = F1 := p2.pur hp
    have hq := pur_quiet k hp
    have x2 : Ext true Z1 H1 (InF F1) Z2 H2 (fun a => InF F2 a ∨ a ∈ f2) := by have := p2.ext; rw [hq] at this; exact this
    have rv : Rep G Z2 H2 d v f1 := p'.rep.kept x2 (p'.val rfl)
    obtain ⟨a', vs, g, hv', hH, hz, r, hFi, hna, ng⟩ := slot_mls p2.env hi
    rw [hv] at hv'
    cases hv'
    subst hF
    have hf1 : a ∉ f1 := fun q => p'.val rfl a q ⟨i, by rw [hFi]; exact List.mem_cons_self⟩
    have hgf : ∀ b ∈ g, b ∉ f1 := fun b hb q => p'.val rfl b q ⟨i, by rw [hFi]; exact List.mem_cons_of_mem _ hb⟩
    obtain ⟨g', q3, q4, q5⟩ := reps_set rv j r
    have hag : a ∉ g' := fun q => (q4 a q).elim hna hf1
    have ng' : g'.Nodup := q5 (List.nodup_append.mpr ⟨ng, p'.nd, fun b hb b' hb' e => hgf b hb (e ▸ hb')⟩)
    obtain ⟨e3, x3⟩ := p2.env.chg (o := .lst (vs.set j v)) (d := .mls (ds.set j d)) (f := g') hi hv hFi hz hH ⟨a, vs.set j v, g', rfl, by rw [upd_same], hz, q3.upd hag, rfl⟩
      (List.nodup_cons.mpr ⟨hag, ng'⟩) (fun b hb j hj q => by
        rcases q4 b hb with hb | hb
        · exact hj (p2.env.dj j i b q (by rw [hFi]; exact List.mem_cons_of_mem _ hb))
        · exact p'.val rfl b hb ⟨j, q⟩)
    have hw : w = .int kk := p2.rep.1
    refine ⟨a, vs, kk, j, rfl, hw, hH, by rw [reps_len r]; exact hj, ok2 σ Z2 _ _ e3 ?_⟩
    have x2' : Ext false Z1 H1 (fun b => InF F2 b ∨ b ∈ f1) Z2 H2 (fun b => InF F2 b ∨ b ∈ f1) := ⟨x2.zz, fun b o e _ => x2.fr b o e (.inl rfl), fun b o e n => (x2.nz b o e n).imp .inl id, fun b hb => .inl hb⟩
    refine x2'.trans ⟨x3.zz, fun b o e q => x3.fr b o e (q.imp id fun q q' => ?_), fun b o e n => (x3.nz b o e n).imp (fun q => ?_) id, fun b hb => (x3.np b hb).imp (fun q => ?_) id⟩
    · rcases q' with q' | q'
      · exact q (.inl q')
      · rcases q4 b q' with q' | q'
        · exact q (.inl ⟨i, by rw [hFi]; exact List.mem_cons_of_mem _ q'⟩)
        · exact q (.inr q')
    all_goals
      rcases q with q | q
      · exact .inl q
      · rcases q4 b q with q | q
        · exact .inl ⟨i, by rw [hFi]; exact List.mem_cons_of_mem _ q⟩
        · exact .inr q
  · exact ok1.elim
/-! ### slot[k] op= e -/
theorem get_listP : PGet X (rIxL X.K) := by
  intro pins s σ H x y v u Q I rx ry h
  obtain ⟨p, xs, i, z, rfl, rfl, hq, he, q⟩ := h
  cases rx
  obtain ⟨t, rfl⟩ := ry
  obtain ⟨its, r, pl, hz⟩ := I.list hq
  obtain ⟨j, h1, h2, h3, h4, h5⟩ := atI_get he
  obtain ⟨w, ew, rw'⟩ := r.get h2
  have hl := r.length
  have hn := line63
  have fin : EP X pins σ Q w s := ⟨z, H, I, rw', q⟩
  by_cases h0 : 0 ≤ i
  · have hj : i.toNat = j := by
      rw [seqIndex_of h0 h5] at h1
      exact Option.some.inj h1
    exact wpAny_getItem_list pl.isList h0 (by omega) (by rw [hj]; simpa using ew) fin
  · have hj : (i + (its.toArray.size : Int)).toNat = j := by
      rw [seqIndex_neg (by omega) h4] at h1
      rw [List.size_toArray, ← hl]
      exact Option.some.inj h1
    exact wpAny_getItem_list_neg pl.isList (by omega) (by rw [List.size_toArray] <;> omega) (by omega) (by rw [hj]; simpa using ew) fin
theorem augix_sound (hX : XOk G c lv ex W X) {i : Nat} {o : Op} {op : Operator} {k e : E} {n : Str} {kx x : Expr} {p2 p' pos : Pos} (ho : augOf o = some op) (hs : slotB c i n = true) (hkp : plainX kx = true) (hk : PE X kx (tEE G ex W T k)) (hx : PE X x (tEE G ex W T e)) :
    PS X (.AugAssign (.Subscript (.Name n p2) kx p') op x pos) (tSS G ex W T (.augix i o k e)) := by
  obtain ⟨v1, v2, v3, v4⟩ := slotB_ok hX hs
  refine PS.imp (ps_augS (pe_var v1 v2 v3 v4) hk get_listP hx (aug_rule ho) set_list (by intro ov iv new; cases kx <;> first | rfl | (cases hkp; done))) fun D σ H ⟨Z, ρ, F, env, ok⟩ => ?_
  rw [evS] at ok
  obtain ⟨hp, ok⟩ := OkS.iteS ok
  obtain ⟨hpk, hpe⟩ := andB hp
  split at ok
  · rename_i ds kk ρ2 hi hev
    have := pur_env T k ρ hpk _ _ hev
    subst this
    split at ok
    · rename_i x0 y0 ρ3 hat hee
      have := pur_env T e ρ2 hpe _ _ hee
      subst this
      split at ok
      · rename_i z hz
        obtain ⟨ρ4, ho4, ok2⟩ := ok.of
        obtain ⟨y4, hy4, rfl⟩ := map_some ho4
        obtain ⟨j, hj, rfl⟩ := map_some (show (ixD ds.length kk).map (fun j => Pd.D.mls (ds.set j z)) = some y4 from hy4)
        have hzi : ∃ m, z = .int m := by
          cases o with
          | add => exact ⟨_, (Option.some.inj (show some (Pd.D.int (x0 + y0)) = some z from hz)).symm⟩
          | sub => exact ⟨_, (Option.some.inj (show some (Pd.D.int (x0 - y0)) = some z from hz)).symm⟩
          | band => exact ⟨_, (Option.some.inj (show some (Pd.D.int (Builtin.bitAnd x0 y0)) = some z from hz)).symm⟩
          | bor => exact ⟨_, (Option.some.inj (show some (Pd.D.int (Builtin.bitOr x0 y0)) = some z from hz)).symm⟩
          | bxor => exact ⟨_, (Option.some.inj (show some (Pd.D.int (Builtin.bitXor x0 y0)) = some z from hz)).symm⟩
          | mul =>
            obtain ⟨_, hk⟩ := if_some (show (if mulOk x0 y0 = true then some (Pd.D.int (x0 * y0)) else none) = some z from hz)
            exact ⟨_, hk.symm⟩
          | _ => cases ho
        obtain ⟨m, rfl⟩ := hzi
        obtain ⟨a, vs0, g0, hv, _, _, _, hF0, _⟩ := slot_mls env hi
        refine ⟨.ref a, hv, Z, ρ3, F, env, ?_⟩
        rw [hev]
        intro w Z2 H2 F2 f2 p2
        have hF : F2 = F := p2.pur hpk
        subst hF
        have x2 : Ext true Z H (InF F2) Z2 H2 (fun a => InF F2 a ∨ a ∈ f2) := by have := p2.ext; rw [pur_quiet k hpk] at this; exact this
        have hw : w = .int kk := p2.rep.1
        obtain ⟨a', vs, g, hv', hH, hz2, r, hFi, hna, ng⟩ := slot_mls p2.env hi
        rw [hv] at hv'
        cases hv'
        obtain ⟨v', g1, e1, e2, _⟩ := atD_v hat r
        have e2 : v' = .int x0 := e2.1
        subst e2
        refine ⟨a, vs, kk, _, rfl, hw, .inl (.inl hH), e1, Z2, ρ3, F2, p2.env, ?_⟩
        rw [hee]
        intro u Z3 H3 F3 f3 p3
        have hF : F3 = F2 := p3.pur hpe
        subst hF
        have x3 : Ext true Z2 H2 (InF F3) Z3 H3 (fun a => InF F3 a ∨ a ∈ f3) := by have := p3.ext; rw [pur_quiet e hpe] at this; exact this
        have hu : u = .int y0 := p3.rep.1
        obtain ⟨a', vs, g, hv', hH, hz3, r, hFi, hna, ng⟩ := slot_mls p3.env hi
        rw [hv] at hv'
        cases hv'
        refine .inl ⟨x0, y0, m, rfl, hu, hz, ?_⟩
        obtain ⟨g', q3, q4, q5⟩ := reps_set (d' := .int m) (w := .int m) (f1 := []) ⟨rfl, rfl⟩ j r
        have q4 : ∀ b ∈ g', b ∈ g := fun b hb => (q4 b hb).elim id fun q => nomatch q
        have hag : a ∉ g' := fun q => hna (q4 a q)
        have ng' : g'.Nodup := q5 (by rw [List.append_nil]; exact ng)
        obtain ⟨e5, x5⟩ := p3.env.chg (o := .lst (vs.set j (.int m))) (d := .mls (ds.set j (.int m))) (f := g') hi hv hFi hz3 hH ⟨a, vs.set j (.int m), g', rfl, by rw [upd_same], hz3, q3.upd hag, rfl⟩
          (List.nodup_cons.mpr ⟨hag, ng'⟩) (fun b hb j hj q => hj (p3.env.dj j i b q (by rw [hFi]; exact List.mem_cons_of_mem _ (q4 b hb))))
        refine ⟨a, vs, kk, j, rfl, hw, hH, by rw [reps_len r]; exact hj, ok2 σ Z3 _ _ e5 ?_⟩
        have y2 : Ext false Z H (InF F3) Z2 H2 (InF F3) := ⟨x2.zz, fun b o e _ => x2.fr b o e (.inl rfl), x2.nz, fun b hb => .inl hb⟩
        have y3 : Ext false Z2 H2 (InF F3) Z3 H3 (InF F3) := ⟨x3.zz, fun b o e _ => x3.fr b o e (.inl rfl), x3.nz, fun b hb => .inl hb⟩
        refine (y2.trans y3).trans ⟨x5.zz, fun b o e q => x5.fr b o e (q.imp id fun q q' => ?_), fun b o e n => (x5.nz b o e n).imp (fun q => ?_) id, fun b hb => (x5.np b hb).imp (fun q => ?_) id⟩
        · rcases q' with q' | q'
          · exact q q'
          · exact q ⟨i, by rw [hFi]; exact List.mem_cons_of_mem _ (q4 b q')⟩
        all_goals
          rcases q with q | q
          · exact q
          · exact ⟨i, by rw [hFi]; exact List.mem_cons_of_mem _ (q4 b q)⟩
      · exact ok.elim
    · exact ok.elim
  · exact ok.elim
end
end Pd

set_option Elab.async false
set_option linter.all false
set_option maxRecDepth 100000
set_option maxHeartbeats 2000000
/-! PdQ: a def keeps the promise of its table row. -/
namespace Pd
open PySem PySem.Spec PyProof.Rows L2
section
variable {G : Gx} {c : Ck} {lv : Nat} {ex : Option (Nat × V)} {W : WX} {X : Cx} {T : Tab}
theorem Ext.noP {q : Bool} {Z H Z' H' : Hp} {P P' P'' : Addr → Prop} (x : Ext q Z H P Z' H' P') (h : ∀ a, ¬ P a) (k : ∀ a, P'' a → P' a) : Ext true Z H (fun _ => False) Z' H' P'' :=
  ⟨x.zz, fun a o e _ => x.fr a o e (.inr (h a)), fun a o e n => .inr ((x.nz a o e n).resolve_left (h a)), fun a p => .inr ((x.np a (k a p)).resolve_left (h a))⟩
/-- the slots behind the parameters are empty -/
theorem EnvR.pad {Z H : Hp} {vs : List V} {ds : List D} {F : Fp} (e : EnvR G none Z H (vs.map some) (ds.map some) F) (n : Nat) : EnvR G none Z H (vs.map some ++ List.replicate n none) (ds.map some ++ List.replicate n none) F where
  len := by
    have := e.len
    simp only [List.length_append, List.length_map, List.length_replicate] at this ⊢
    omega
  at_ := fun i d h => by
    by_cases hi : i < (ds.map some).length
    · rw [List.getElem?_append_left hi] at h
      obtain ⟨v, h1, h2⟩ := e.at_ i d h
      refine ⟨v, ?_, h2⟩
      rw [List.getElem?_append_left (List.getElem?_eq_some_iff.mp h1).1]
      exact h1
    · rw [List.getElem?_append_right (by omega), List.getElem?_replicate] at h
      split at h <;> cases h
  off := fun i h => e.off i fun d q => h d (by
    rw [List.getElem?_append_left (List.getElem?_eq_some_iff.mp q).1]
    exact q)
  nd := e.nd
  dj := e.dj
  sub := e.sub
  exs := fun _ _ q => nomatch q
theorem cxOf_ok {K : PySem.W.Frag} {P : Program} {w : World} {mg : Str → Option Value} {base : Heap} {N : List Str} {qual : Str} {scope : Scope} {f : Addr} {cdv : Value} {A : Around} {outer : List PySem.Env} {s : Shared} {H : Hp} {E : XK} (hP : G.P = P) (hw : G.w = w) (hK : G.K = K) (hm : G.mg = mg) (hb : G.base = base)
    (hr : Room lv (A.deeper (envOfC qual scope s.heap.objs.size f cdv))) (hN : c.N = N) (hnd : N.Nodup) (hsc : c.sc = scope) (hhot : c.hot = false) (hblt : ∀ x ∈ bnames, G.mg x = none) (hexi : ∀ j a, ex = some (j, a) → c.exi = some j) :
    XOk G c lv ex (fun cls d _ H' => E cls d H') (cxOf (L2.CX P w) P w K mg base N qual scope f cdv A outer s H E) where
  p := hP.symm
  w := hw.symm
  K := hK.symm
  mg := hm.symm
  base := hb.symm
  N := hN.symm
  nd := by rw [hN]; exact hnd
  sc := hsc.symm
  st := fun _ _ _ => .inl rfl
  un := by
    have := hr.un
    show (A.deeper (envOfC qual scope s.heap.objs.size f cdv)).units + 100 < cLine
    omega
  calm := by rw [hhot]; rfl
  room := fun _ => hr
  tk := takes_of rfl rfl rfl rfl
  po := passes_of rfl
  top := fun _ => ⟨rfl, rfl⟩
  blt := hblt
  exi := hexi
theorem def_ok {name qual : Str} {params : Arguments} {body : List Stmt} {scope : Scope} {f : Addr} {fd : FuncData} {ps : List Str} {nm : Str} {mu : List Nat} {b : List S} (F : FunD G.K name qual params body scope [] [] f fd) (S : FnScope c.N ps scope) (hsc : c.sc = scope) (hhot : c.hot = false) (hblt : ∀ x ∈ bnames, G.mg x = none)
    (hmu : mu = [] ∧ c.exi = none ∨ ∃ i, mu = [i] ∧ c.exi = some i ∧ i < ps.length)
    (hbody : ∀ (ex : Option (Nat × V)) (W : WX) (X : Cx), XOk G c lv ex W X → PSs X body (tBB G ex W T b)) :
    FnOk G.P G.w G.K G.mg G.base (L2.CX G.P G.w) (lv + 1) f fd ps (spD G ⟨nm, mu, runF T ps.length c.N.length mu b⟩) := by
  have hlen : ∀ vs H Q E, spD G ⟨nm, mu, runF T ps.length c.N.length mu b⟩ vs H Q E → vs.length = ps.length := by
    intro vs H Q E ⟨Z, ds, F0, env, hF, h⟩
    have hl : ds.length = vs.length := by
      have := env.len
      simp only [List.length_map] at this
      omega
    by_cases q : ds.length = ps.length
    · omega
    · have e : runF T ps.length c.N.length mu b ds = .stk := by
        unfold runF
        rw [if_neg q]
      dsimp only at h
      rw [e] at h
      exact h.elim
  refine F.ok S hlen fun cdv A outer s H vs Q E hr h => ?_
  have hvl := hlen vs H Q E h
  obtain ⟨Z, ds, F0, env, hF, h⟩ := h
  dsimp only at hF h
  have hl : ds.length = vs.length := by
    have := env.len
    simp only [List.length_map] at this
    omega
  have env1 := env.pad (c.N.length - vs.length)
  -- what stays: the parameter that is changed
  obtain ⟨ex, hex1, hex2⟩ : ∃ ex : Option (Nat × V), (∀ j a, ex = some (j, a) → c.exi = some j ∧ (L2.start c.N vs)[j]? = some (some a)) ∧ (∀ i, mu = [i] → ∀ v, vs[i]? = some v → ex = some (i, v)) := by
    rcases hmu with ⟨hm, _⟩ | ⟨i, hm, hi, hip⟩
    · exact ⟨none, fun _ _ q => (nomatch q), fun i q => by rw [hm] at q; cases q⟩
    · cases hv : vs[i]? with
      | none => exact ⟨none, fun _ _ q => (nomatch q), fun j q v hv' => by rw [hm] at q; cases q; rw [hv] at hv'; cases hv'⟩
      | some v =>
        refine ⟨some (i, v), fun j a q => ?_, fun j q v' hv' => by rw [hm] at q; cases q; rw [hv] at hv'; cases hv'; rfl⟩
        cases q
        refine ⟨hi, ?_⟩
        unfold L2.start
        have hlt := (List.getElem?_eq_some_iff.mp hv).1
        rw [List.getElem?_append_left (by rw [List.length_map]; exact hlt), List.getElem?_map, hv]
        rfl
  have env2 : EnvR G ex Z H (L2.start c.N vs) (ds.map some ++ List.replicate (c.N.length - ps.length) none) F0 := by
    have e := env1
    rw [hvl] at e
    refine ⟨?_, ?_, e.off, e.nd, e.dj, e.sub, fun j a q => (hex1 j a q).2⟩
    · have := e.len; unfold L2.start; rw [hvl]; exact this
    · intro i d hd; have := e.at_ i d hd; unfold L2.start; rw [hvl]; exact this
  refine ⟨_, hbody ex _ _ (cxOf_ok rfl rfl rfl rfl rfl hr rfl S.nd hsc hhot hblt fun j a q => (hex1 j a q).1), Z, _, F0, env2, ?_⟩
  have hd : ds.length = ps.length := by omega
  have hP : mu = [] → ∀ a, ¬ InF F0 a := fun hm a ⟨i, hi⟩ => by have := hF i a hi; rw [hm] at this; cases this
  unfold runF at h
  rw [if_pos hd] at h
  have fin : ∀ (d : D) (ρ : Env) (σ' : L2.St) (v : V) (Z' H' : Hp) (F' : Fp) (f : List Addr), EnvR G ex Z' H' σ' ρ F' → Rep G Z' H' d v f → f.Nodup → (∀ a ∈ f, ¬ InF F' a) → Ext (quietB b) Z H (InF F0) Z' H' (fun a => InF F' a ∨ a ∈ f) →
      (match (generalizing := false) (match (generalizing := false) mu.mapM fun i => ρ[i]?.getD none with
        | some ms => RF.ok d ms
        | none => .stk) with
      | .ok d ms => (match (generalizing := false) mu, ms with
        | [], _ => ∀ v Z' H' fr, Sub Z' H' → Ext true Z H (fun _ => False) Z' H' (· ∈ fr) → Rep G Z' H' d v fr → fr.Nodup → Q v H'
        | [i], [m] => ∀ v w Z' H' fr g, vs[i]? = some w → Sub Z' H' → Ext false Z H (InF F0) Z' H' (fun a => a ∈ fr ∨ a ∈ g) → Rep G Z' H' d v fr → Rep G Z' H' m w g → (fr ++ g).Nodup → Q v H'
        | _, _ => False)
      | .exn x => ∀ cls dx Z' H', Sub Z' H' → Ext mu.isEmpty Z H (InF F0) Z' H' (fun _ => False) → ExnIs G x cls dx H' → E cls dx H'
      | .stk => False) → Q v H' := by
    intro d ρ σ' v Z' H' F' f e r nd np x h
    rcases hmu with ⟨hm, _⟩ | ⟨i, hm, hi, hip⟩
    · subst hm
      exact h v Z' H' f e.sub (x.noP (hP rfl) fun a ha => .inr ha) r nd
    · subst hm
      cases hri : ρ[i]? with
      | none => simp [hri] at h
      | some o =>
        cases o with
        | none => simp [hri] at h
        | some m =>
          simp [hri] at h
          obtain ⟨w, hw, rm⟩ := e.at_ i m hri
          obtain ⟨v0, hv0⟩ : ∃ v0, vs[i]? = some v0 := ⟨_, List.getElem?_eq_getElem (by omega)⟩
          have e0 := e.exs i v0 (hex2 i rfl v0 hv0)
          rw [hw] at e0
          cases e0
          refine h v w Z' H' f (F' i) hv0 e.sub ((x.wk (q' := false) fun q => nomatch q).imp fun a ha => ha.elim .inr fun q => .inl ⟨i, q⟩) r rm (List.nodup_append.mpr ⟨nd, e.nd i, fun a ha b hb q => np a ha ⟨i, q ▸ hb⟩⟩)
  cases hr : evB T b (ds.map some ++ List.replicate (c.N.length - ps.length) none) with
  | stk => rw [hr] at h; exact h.elim
  | bk ρ => rw [hr] at h; exact h.elim
  | ct ρ => rw [hr] at h; exact h.elim
  | nx ρ =>
    rw [hr] at h
    intro σ' Z' H' F' e x
    exact fin .non ρ σ' .non Z' H' F' [] e ⟨rfl, rfl⟩ List.nodup_nil (fun _ q => nomatch q) (x.imp fun a ha => ha.elim id fun q => nomatch q) h
  | rt d ρ =>
    rw [hr] at h
    intro v σ' Z' H' F' f e r nd np x
    exact fin d ρ σ' v Z' H' F' f e r nd np x h
  | ex x ρ =>
    rw [hr] at h
    intro cls dx σ' Z' H' F' e xt is
    refine h cls dx Z' H' e.sub ?_ is
    rcases hmu with ⟨hm, _⟩ | ⟨i, hm, hi, hip⟩
    · subst hm
      have y := xt.noP (P'' := fun _ => False) (hP rfl) (fun _ q => q.elim)
      exact ⟨y.zz, fun a o e _ => y.fr a o e (.inl rfl), fun a o e n => .inr ((y.nz a o e n).resolve_left id), fun a q => q.elim⟩
    · subst hm
      exact (xt.wk (q' := false) fun q => nomatch q).imp fun a q => q.elim
end
end Pd

set_option Elab.async false
set_option linter.all false
set_option maxRecDepth 100000
set_option maxHeartbeats 2000000
/-! PdR: the look at an expression's text, and that it suffices. -/
namespace Pd
open PySem PySem.Spec PyProof.Rows L2
def tstX : Expr → Bool
  | .Name _ _ => true
  | .Call _ _ _ _ => true
  | .Attribute _ _ _ => true
  | .Subscript _ _ _ => true
  | .BinOp _ _ _ _ => true
  | _ => false
theorem tstX_ok {x : Expr} (h : tstX x = true) (env : PySem.Env) (whole : Sem Value) : isTrue x env whole = (do let v ← whole; standAt x.pos; holding [v] (truthy v)) := by
  cases x <;> first | rfl | (cases h; done)
/-- a comparison whose answer is a truth value -/
def cmpOp : Op → Option CmpOp
  | .isin => some .In | .notin => some .NotIn
  | o => cmpOf o
def tstOp (o : Op) (x : Expr) : Bool := tstX x || ((cmpOp o).isSome || (o == .isN || o == .isnN))
def ownP (c : Ck) (own : List Nat) : List (Str × Nat) := own.map fun i => (c.N.getD i Str.empty, i)
theorem ownP_snd (c : Ck) (own : List Nat) : (ownP c own).map (·.2) = own := by
  unfold ownP
  rw [List.map_map]
  exact List.map_id _
def subL (a b : List Nat) : Bool := a.all fun i => b.contains i
theorem subL_ok {a b : List Nat} (h : subL a b = true) : ∀ i ∈ a, i ∈ b := fun i hi => by
  have := List.all_eq_true.mp h i hi
  simpa using this
def isxB (c : Ck) (cid : Nat) (x : Expr) : Bool := match x with
  | .Call (.Name f _) [.Name e _, .Name n _] [] _ => c.hot && (nmB c "isinstance" f && (c.exh.contains (cid, n) && (glB c.sc n && (match c.exi with
    | some i => slotB c i e
    | none => false))))
  | _ => false
mutual
def okX (c : Ck) (t : Bool) : E → Expr → Bool
  | .var i, .Name x _ => slotB c i x
  | .frz i, .Name x _ => slotB c i x && !decide (c.exi = some i)
  | .mov i, .Name x _ => slotB c i x && !decide (c.exi = some i)
  | .non, .Constant .none _ _ => !t
  | .bl b, .Constant (.bool b') _ _ => !t && decide (b = b')
  | .int i, .Constant (.int j) _ _ => !t && decide (i = j)
  | .str s, .Constant (.str r) _ _ => !t && decide (s = r)
  | .glob j, .Name x _ => decide (c.gls[j]? = some x) && glB c.sc x
  | .fld a f, .Attribute x f' _ => decide (f = f') && (baseX x && okX c false a x)
  | .ix a i, .Subscript x y _ => plainX y && (okX c false a x && okX c false i y)
  | .fz a, x => !t && okX c false a x
  | .op o es, x => (!t || tstOp o x) && (opSafe o es && match opnds c o x with
    | some xs => okEs c es xs
    | none => false)
  | .chain o o' [a, b, e], .Compare x [op, op'] [y, z] _ => decide (cmpOf o = some op) && (decide (cmpOf o' = some op') && (safe e && (pur e && (plainX z && (okX c false a x && (okX c false b y && okX c false e z))))))
  | .and a b, .BoolOp .And (x :: y :: rest) pos => okX c t a x && (match rest with
    | [] => okX c t b y
    | _ => okX c t b (.BoolOp .And (y :: rest) pos))
  | .or a b, .BoolOp .Or (x :: y :: rest) pos => okX c t a x && (match rest with
    | [] => okX c t b y
    | _ => okX c t b (.BoolOp .Or (y :: rest) pos))
  | .not a, .UnaryOp .Not x _ => okX c t a x
  | .ite q a b, .IfExp x y z _ => !t && (okX c true q x && (okX c false a y && okX c false b z))
  | .tup es, .Tuple xs _ _ => !t && okEs c es xs
  | .lst es, .List xs _ => !t && okEs c es xs
  | .dict _ [], .Dict [] [] _ => !t
  | .call .fn j es, .Call (.Name nm _) (y :: ys) [] _ => !c.hot && ((match c.fns[j]? with | some (.fn n) => decide (n = nm) | _ => false) && (glB c.sc nm && ((!hasBor es || purs es) && okAs c es (y :: ys))))
  | .call (.meth c' m) j es, .Call (.Attribute o m' apos) ys [] pos => !c.hot && ((match c.fns[j]? with | some (.meth c2 m2) => decide (c2 = c' ∧ m2 = m ∧ m = m') | _ => false) && (baseX o && (decide (ys.length < 20) && (apos.endLine == pos.line && ((!hasBor es || purs es) && okAs c es (o :: ys))))))
  | .call (.prop c' m) j es, .Attribute o m' _ => !t && (!c.hot && ((match c.fns[j]? with | some (.prop c2 m2) => decide (c2 = c' ∧ m2 = m ∧ m = m') | _ => false) && (baseX o && ((!hasBor es || purs es) && okAs c es [o]))))
  | .mcall .fn j pre i post, .Call (.Name nm _) xs [] _ => !c.hot && ((match c.fns[j]? with | some (.fn n) => decide (n = nm) | _ => false) && (glB c.sc nm && (okAs c pre (xs.take pre.length) && match xs.drop pre.length with
    | .Name x _ :: zs => slotB c i x && okAs c post zs
    | _ => false)))
  | .mcall (.meth c' m) j [] i post, .Call (.Attribute (.Name x _) m' apos) zs [] pos => !c.hot && ((match c.fns[j]? with | some (.meth c2 m2) => decide (c2 = c' ∧ m2 = m ∧ m = m') | _ => false) && (slotB c i x && (decide (zs.length < 20) && (apos.endLine == pos.line && okAs c post zs))))
  | .make j es, .Call (.Name nm _) ys [] _ => !t && (!c.hot && ((match c.cls[j]? with | some (_, n) => decide (n = nm) | _ => false) && (glB c.sc nm && okAs c es ys)))
  | .comp elt tg k ies ifs own, .ListComp eltx [⟨tgx, iterx, ifx, as⟩] scope _ => !t && (!c.hot && (decide (as = 0) && (blkC c.N c.sc scope (ownP c own) && (subL (tgSl tg) own && (plainX iterx && ((match iterX c k tgx iterx with
    | some xs => okEs c ies xs
    | none => false) && (tgB (c.blk scope) tg tgx && (okIfs (c.blk scope) ifs ifx && okX (c.blk scope) false elt eltx))))))))
  | .comp2 elt tg k ies tg' k' ies' own, .ListComp eltx [⟨tgx, iterx, [], as⟩, ⟨tgx', iterx', [], as'⟩] scope _ => !t && (!c.hot && (decide (as = 0 ∧ as' = 0) && (blkC c.N c.sc scope (ownP c own) && (subL (tgSl tg) own && (subL (tgSl tg') own && (plainX iterx && (plainX iterx' && ((match iterX c k tgx iterx with
    | some xs => okEs c ies xs
    | none => false) && (tgB (c.blk scope) tg tgx && ((match iterX (c.blk scope) k' tgx' iterx' with
    | some xs => okEs (c.blk scope) ies' xs
    | none => false) && (tgB (c.blk scope) tg' tgx' && okX (c.blk scope) false elt eltx)))))))))))
  | .isx cid, x => isxB c cid x
  | _, _ => false
def okEs (c : Ck) : List E → List Expr → Bool
  | [], [] => true
  | e :: es, x :: xs => plainX x && (okX c false e x && okEs c es xs)
  | _, _ => false
def okAs (c : Ck) : List E → List Expr → Bool
  | [], [] => true
  | .bor a :: es, x :: xs => plainX x && (isPlace a && (okX c false a x && okAs c es xs))
  | e :: es, x :: xs => plainX x && (!isBor e && (okX c false e x && okAs c es xs))
  | _, _ => false
def okIfs (c : Ck) : List E → List Expr → Bool
  | [], [] => true
  | [e], [x] => okX c true e x
  | _, _ => false
end
/-- a class of exceptions without an own __init__ -/
def ExnC (G : Gx) (cn : Nat × Str) : Prop := cn.1 ∈ G.exs ∧ ∃ B newId initId bmB, ExcBaseFacts B newId initId bmB ∧ PySem.W.excIn G.K (G.cad cn.1) bmB newId = true ∧ G.mg cn.2 = some (.ref (G.cad cn.1)) ∧ PySem.W.keepIn G.K (.ref (G.cad cn.1)) = true ∧
  PySem.W.subIn G.K (.ref (G.cad cn.1)) (.type "BaseException") = some true ∧ PySem.W.typeIn G.K (.ref (G.cad cn.1)) = some (.type "type")
/-- the classes of exceptions, one to another -/
structure ExAll (G : Gx) (sub : Nat → Nat → Bool) : Prop where
  exm : ∀ a ∈ G.exs, ∀ b ∈ G.exs, PySem.W.exmOne G.K (.ref (G.cad a)) (.ref (G.cad b)) = some (sub a b)
  kit : ∀ a ∈ G.exs, ∀ b ∈ G.exs, PySem.W.kitOne G.K (.ref (G.cad a)) (.ref (G.cad b)) = some (sub a b)
  exc : ∀ a ∈ G.exs, ExcC G.K (G.cad a)
structure TOk (G : Gx) (c : Ck) (lv : Nat) (T : Tab) : Prop where
  fld : ∀ c' f, T.flds.contains (c', f) = true → Cls G.K (G.cad c') ∧ NoAttr G.K (G.cad c') f
  gls : ∀ (j : Nat) x, c.gls[j]? = some x → ∀ d, T.gls[j]? = some d → ∃ v u, G.mg x = some u ∧ RelV v u ∧ ∀ Z H, Rep G Z H d v []
  fns : ∀ (j : Nat) fi, c.fns[j]? = some fi → ∃ f, T.fns[j]? = some f ∧ FdOk G lv fi f
  cls : ∀ (j : Nat) cx, c.cls[j]? = some cx → ∃ cf, T.cls[j]? = some cf ∧ MkOk G lv cx cf
  exn : ∀ cn, cn ∈ c.exn → ExnC G cn
  exh : ∀ cn, cn ∈ c.exh → cn.1 ∈ G.exs ∧ G.mg cn.2 = some (.ref (G.cad cn.1))
  exa : ExAll G T.sub
theorem TOk.blk {G : Gx} {c : Ck} {lv : Nat} {T : Tab} (h : TOk G c lv T) (scope : Scope) : TOk G (c.blk scope) lv T := ⟨h.fld, h.gls, h.fns, h.cls, h.exn, h.exh, h.exa⟩
/-- isinstance of the exception that a suite holds -/
def XEOk (G : Gx) (c : Ck) (ex : Option (Nat × V)) (T : Tab) (X : Cx) : Prop := c.hot = true → ∀ i, c.exi = some i → ∃ a, ex = some (i, V.ref a) ∧ ∀ x, T.exc = some ⟨x, none⟩ → x ∈ G.exs ∧ CallR X (.builtin "isinstance") (rIsE X.K (G.cad x) a)
theorem XEOk.cold {G : Gx} {c : Ck} {ex : Option (Nat × V)} {T : Tab} {X : Cx} (h : c.hot = false) : XEOk G c ex T X := fun q => by rw [h] at q; cases q
def Snd (G : Gx) (ex : Option (Nat × V)) (W : WX) (T : Tab) (X : Cx) (t : Bool) (e : E) (x : Expr) : Prop :=
  if t = true then PT X x (tTT G ex W T e) ∧ ∀ op xs pos, x = .BoolOp op xs pos → PW X x (tTT G ex W T e) else PE X x (tEE G ex W T e)
section
variable {G : Gx} {lv : Nat} {T : Tab}
theorem Snd.val {ex : Option (Nat × V)} {W : WX} {X : Cx} {t : Bool} {e : E} {x : Expr} (hK : X.K = G.K) (h : PE X x (tEE G ex W T e)) (ht : t = true → tstX x = true) : Snd G ex W T X t e x := by
  unfold Snd
  cases t with
  | false => exact h
  | true =>
    refine ⟨test_sound hK h (tstX_ok (ht rfl) X.env), fun op xs pos q => ?_⟩
    subst q
    cases (ht rfl)
theorem Snd.no {ex : Option (Nat × V)} {W : WX} {X : Cx} {t : Bool} {e : E} {x : Expr} (h : PE X x (tEE G ex W T e)) (ht : (!t) = true) : Snd G ex W T X t e x := by
  cases t with
  | false => exact h
  | true => cases ht
theorem rD_bl {o : Op} {vs : List V} {H : Hp} {Q : Bool → Hp → Prop} (ho : ∀ ds d, opD o ds = some d → ∃ b, d = .bl b) (h : rD G o vs H fun x H' => ∃ k, TruV G.K x H' k ∧ Q k H') : rD G o vs H fun x H' => ∃ k, x = .bl k ∧ Q k H' := by
  obtain ⟨Z, ds, fp, d, sb, r, e, k⟩ := h
  obtain ⟨b, rfl⟩ := ho ds d e
  refine ⟨Z, ds, fp, .bl b, sb, r, e, fun v Z' H' f fr rep nd fresh => ?_⟩
  obtain ⟨k', h1, h2⟩ := k v Z' H' f fr rep nd fresh
  have hv := rep.1
  subst hv
  have h1 : k' = b := h1
  exact ⟨b, rfl, h1 ▸ h2⟩
end
end Pd

set_option Elab.async false
set_option linter.all false
set_option maxRecDepth 100000
set_option maxHeartbeats 4000000
/-! PdS: what passes the look is sound. -/
namespace Pd
open PySem PySem.Spec PyProof.Rows L2
section
variable {G : Gx} {lv : Nat} {T : Tab}
theorem notB {b : Bool} (h : (!b) = true) : b = false := by cases b; rfl; cases h
theorem orB {a b : Bool} (h : (!a || b) = true) : a = true → b = true := fun q => by rw [q] at h; exact h
theorem cmpOp_inv {o : Op} {op : CmpOp} (h : cmpOp o = some op) (ds : List D) (d : D) (hd : opD o ds = some d) : ∃ b, d = .bl b := by
  rcases ds with _ | ⟨a, _ | ⟨b, _ | ⟨x, ds⟩⟩⟩
  · cases o <;> first | (cases h; done) | (cases hd; done)
  · cases o <;> first | (cases h; done) | (cases hd; done)
  · cases o with
    | lt => obtain ⟨i, j, _, _, q⟩ := int2_inv (g := fun i j => some (.bl (decide (i < j)))) hd; cases q; exact ⟨_, rfl⟩
    | le => obtain ⟨i, j, _, _, q⟩ := int2_inv (g := fun i j => some (.bl (decide (i ≤ j)))) hd; cases q; exact ⟨_, rfl⟩
    | gt => obtain ⟨i, j, _, _, q⟩ := int2_inv (g := fun i j => some (.bl (decide (j < i)))) hd; cases q; exact ⟨_, rfl⟩
    | ge => obtain ⟨i, j, _, _, q⟩ := int2_inv (g := fun i j => some (.bl (decide (j ≤ i)))) hd; cases q; exact ⟨_, rfl⟩
    | eq => obtain ⟨k, _, q⟩ := map_some (o := eqD a b) (g := D.bl) hd; exact ⟨k, q.symm⟩
    | ne => obtain ⟨k, _, q⟩ := map_some (o := eqD a b) (g := fun c => D.bl (!c)) hd; exact ⟨_, q.symm⟩
    | isin => obtain ⟨k, _, q⟩ := map_some (o := inD a b) (g := D.bl) hd; exact ⟨k, q.symm⟩
    | notin => obtain ⟨k, _, q⟩ := map_some (o := inD a b) (g := fun c => D.bl (!c)) hd; exact ⟨_, q.symm⟩
    | _ => cases h
  · cases o <;> first | (cases h; done) | (cases hd; done)
/-- a comparison as a test -/
theorem tcmp_sound {c : Ck} {ex : Option (Nat × V)} {W : WX} {X : Cx} (hX : XOk G c lv ex W X) {o : Op} {op : CmpOp} (ho : cmpOp o = some op) {es : List E} {xs : List Expr} {x : Expr} (hx : opnds c o x = some xs) (hl : AllE G ex W T X es xs) : PT X x (tTT G ex W T (.op o es)) ∧ ∀ op xs pos, x ≠ .BoolOp op xs pos := by
  have hu := hX.un
  have hK := hX.K
  have hx' : cmpX op x = some xs := by
    cases o with
    | lt => cases ho; exact hx
    | le => cases ho; exact hx
    | gt => cases ho; exact hx
    | ge => cases ho; exact hx
    | eq => cases ho; exact hx
    | ne => cases ho; exact hx
    | isin => cases ho; exact hx
    | notin => cases ho; exact hx
    | _ => cases ho
  have rule : OpR X (compareOp op) (fun x y H Q => rD G o [x, y] H Q) := by
    cases o with
    | isin => cases ho; exact or_in hK (by omega)
    | notin => cases ho; exact or_notin hK (by omega)
    | lt => exact cmp_rule hX ho
    | le => exact cmp_rule hX ho
    | gt => exact cmp_rule hX ho
    | ge => exact cmp_rule hX ho
    | eq => exact cmp_rule hX ho
    | ne => exact cmp_rule hX ho
    | _ => cases ho
  unfold cmpX at hx'
  split at hx'
  · rename_i a o' b pos
    obtain ⟨hc, rfl⟩ := if_some hx'
    obtain ⟨hc, hm⟩ := andB hc
    have hc := of_decide_eq_true hc
    subst hc
    obtain ⟨e, e', rfl, ⟨h1, _⟩, h2, _⟩ := hl.two
    refine ⟨PT.imp (pt_cmpR rule h1 h2 (by simpa using hm)) fun σ H Q h => ?_, fun _ _ _ q => nomatch q⟩
    exact tE_imp (core2 (op_core (test_val h))) fun v H1 h => tE_imp h fun w H2 h => rD_bl (cmpOp_inv ho) h
  · cases hx'
theorem tisN_sound {c : Ck} {ex : Option (Nat × V)} {W : WX} {X : Cx} {o : Op} (ho : o = .isN ∨ o = .isnN) {es : List E} {xs : List Expr} {x : Expr} (hx : opnds c o x = some xs) (hl : AllE G ex W T X es xs) : PT X x (tTT G ex W T (.op o es)) ∧ ∀ op xs pos, x ≠ .BoolOp op xs pos := by
  have inv : ∀ ds d, opD o ds = some d → ∃ b, d = .bl b := by
    intro ds d hd
    rcases ds with _ | ⟨a, _ | ⟨b, ds⟩⟩
    · rcases ho with rfl | rfl <;> cases hd
    · rcases ho with rfl | rfl <;> (cases hd; exact ⟨_, rfl⟩)
    · rcases ho with rfl | rfl <;> cases hd
  rcases ho with rfl | rfl
  · unfold opnds at hx
    simp only at hx
    split at hx
    · cases hx
      obtain ⟨e, rfl, h1, _⟩ := hl.one
      refine ⟨PT.imp (pt_cmpR (or_isN (G := G)) h1 pe_non rfl) fun σ H Q h => ?_, fun _ _ _ q => nomatch q⟩
      exact tE_imp (core1 (op_core (test_val h))) fun v H1 h => ⟨rfl, rD_bl inv h⟩
    · cases hx
  · unfold opnds at hx
    simp only at hx
    split at hx
    · cases hx
      obtain ⟨e, rfl, h1, _⟩ := hl.one
      refine ⟨PT.imp (pt_cmpR (or_isnN (G := G)) h1 pe_non rfl) fun σ H Q h => ?_, fun _ _ _ q => nomatch q⟩
      exact tE_imp (core1 (op_core (test_val h))) fun v H1 h => ⟨rfl, rD_bl inv h⟩
    · cases hx
theorem plain_marks {op op' : CmpOp} {y z : Expr} (h : plainX z = true) : lastMarks [op, op'] [y, z] = false := by
  cases z <;> first | rfl | (cases h; done)
theorem bool_plain {op : BoolOp} {xs : List Expr} {pos : Pos} : plainX (.BoolOp op xs pos) = true := rfl
theorem isx_inv {c : Ck} {cid : Nat} {x : Expr} (h : isxB c cid x = true) : ∃ fn p1 en p2 cn p3 p, x = .Call (.Name fn p1) [.Name en p2, .Name cn p3] [] p ∧ (c.hot && (nmB c "isinstance" fn && (c.exh.contains (cid, cn) && (glB c.sc cn && (match c.exi with
    | some i => slotB c i en
    | none => false))))) = true := by
  unfold isxB at h
  split at h
  · exact ⟨_, _, _, _, _, _, _, rfl, h⟩
  · cases h
mutual
theorem okX_ok : ∀ (e : E) {c : Ck} {ex : Option (Nat × V)} {W : WX} {X : Cx} (hX : XOk G c lv ex W X) (hT : TOk G c lv T) (hE : XEOk G c ex T X) (t : Bool) (x : Expr), okX c t e x = true → Snd G ex W T X t e x
  | .var i, c, ex, W, X, hX, hT, hE, t, x, h => by
    cases x with
    | Name n p => exact Snd.val hX.K (var_sound hX h) fun _ => rfl
    | _ => cases h
  | .frz i, c, ex, W, X, hX, hT, hE, t, x, h => by
    cases x with
    | Name n p =>
      obtain ⟨h1, h2⟩ := andB h
      exact Snd.val hX.K (frz_sound hX hX.exi (by simpa using h2) h1) fun _ => rfl
    | _ => cases h
  | .mov i, c, ex, W, X, hX, hT, hE, t, x, h => by
    cases x with
    | Name n p =>
      obtain ⟨h1, h2⟩ := andB h
      exact Snd.val hX.K (mov_sound hX hX.exi (by simpa using h2) h1) fun _ => rfl
    | _ => cases h
  | .non, c, ex, W, X, hX, hT, hE, t, x, h => by
    cases x with
    | Constant k j p =>
      cases k with
      | none => exact Snd.no (const_sound (pl := false) pe_non fin_non fun ρ => by rw [evE]) h
      | _ => cases h
    | _ => cases h
  | .bl b, c, ex, W, X, hX, hT, hE, t, x, h => by
    cases x with
    | Constant k j p =>
      cases k with
      | bool b' =>
        obtain ⟨h1, h2⟩ := andB h
        have h2 := of_decide_eq_true h2
        subst h2
        exact Snd.no (const_sound (pl := false) pe_bl fin_bl fun ρ => by rw [evE]) h1
      | _ => cases h
    | _ => cases h
  | .int i, c, ex, W, X, hX, hT, hE, t, x, h => by
    cases x with
    | Constant k j p =>
      cases k with
      | int b' =>
        obtain ⟨h1, h2⟩ := andB h
        have h2 := of_decide_eq_true h2
        subst h2
        exact Snd.no (const_sound (pl := false) pe_int fin_int fun ρ => by rw [evE]) h1
      | _ => cases h
    | _ => cases h
  | .str s, c, ex, W, X, hX, hT, hE, t, x, h => by
    cases x with
    | Constant k j p =>
      cases k with
      | str b' =>
        obtain ⟨h1, h2⟩ := andB h
        have h2 := of_decide_eq_true h2
        subst h2
        exact Snd.no (const_sound (pl := false) pe_str fin_str fun ρ => by rw [evE]) h1
      | _ => cases h
    | _ => cases h
  | .glob j, c, ex, W, X, hX, hT, hE, t, x, h => by
    cases x with
    | Name n p =>
      obtain ⟨h1, h2⟩ := andB h
      have h1 := of_decide_eq_true h1
      refine Snd.val hX.K ?_ fun _ => rfl
      cases hd : T.gls[j]? with
      | none => exact ⟨fun pins s σ H Q I ⟨Z, ρ, F, env, ok⟩ => by
          rw [evE, hd] at ok
          exact ok.elim⟩
      | some d =>
        obtain ⟨v, u, k1, k2, k3⟩ := hT.gls j n h1 d hd
        exact glob_sound hX hd h2 k1 k2 k3
    | _ => cases h
  | .fld a f, c, ex, W, X, hX, hT, hE, t, x, h => by
    cases x with
    | Attribute y f' p =>
      obtain ⟨h1, h2⟩ := andB h
      obtain ⟨h2, h3⟩ := andB h2
      have h1 := of_decide_eq_true h1
      subst h1
      exact Snd.val hX.K (fld_sound hX.K hT.fld (okX_ok a hX hT hE false y h3) h2) fun _ => rfl
    | _ => cases h
  | .ix a i, c, ex, W, X, hX, hT, hE, t, x, h => by
    cases x with
    | Subscript y z p =>
      obtain ⟨h1, h2⟩ := andB h
      obtain ⟨h2, h3⟩ := andB h2
      have hu := hX.un
      exact Snd.val hX.K (ix_sound hX.K (by omega) (okX_ok a hX hT hE false y h2) (okX_ok i hX hT hE false z h3) h1) fun _ => rfl
    | _ => cases h
  | .fz a, c, ex, W, X, hX, hT, hE, t, x, h => by
    obtain ⟨h1, h2⟩ := andB (show (!t && okX c false a x) = true from h)
    exact Snd.no (fz_sound (okX_ok a hX hT hE false x h2)) h1
  | .op o es, c, ex, W, X, hX, hT, hE, t, x, h => by
    obtain ⟨h1, h2⟩ := andB (show ((!t || tstOp o x) && (opSafe o es && match opnds c o x with | some xs => okEs c es xs | none => false)) = true from h)
    obtain ⟨h2, h3⟩ := andB h2
    cases hx : opnds c o x with
    | none => rw [hx] at h3; cases h3
    | some xs =>
      rw [hx] at h3
      have hl := okEs_ok es hX hT hE xs h3
      have pe := op_sound o hX h2 hx hl
      cases t with
      | false => exact pe
      | true =>
        have h1 : tstOp o x = true := h1
        rcases Bool.or_eq_true_iff.mp h1 with q | q
        · exact Snd.val hX.K pe fun _ => q
        · have fin : (PT X x (tTT G ex W T (.op o es)) ∧ ∀ op xs pos, x ≠ .BoolOp op xs pos) → Snd G ex W T X true (.op o es) x := fun ⟨k1, k2⟩ => ⟨k1, fun op xs pos q => (k2 op xs pos q).elim⟩
          rcases Bool.or_eq_true_iff.mp q with q | q
          · obtain ⟨op, ho⟩ := Option.isSome_iff_exists.mp q
            exact fin (tcmp_sound hX ho hx hl)
          · exact fin (tisN_sound ((Bool.or_eq_true_iff.mp q).imp (fun q => by simpa using q) fun q => by simpa using q) hx hl)
  | .chain o o' es, c, ex, W, X, hX, hT, hE, t, x, h => by
    rcases es with _ | ⟨a, _ | ⟨b, _ | ⟨e, _ | ⟨f, es⟩⟩⟩⟩
    · cases x <;> cases h
    · cases x <;> cases h
    · cases x <;> cases h
    · cases x with
      | Compare y ops zs p =>
        rcases ops with _ | ⟨op, _ | ⟨op', _ | ⟨op2, ops⟩⟩⟩
        · cases h
        · cases h
        · rcases zs with _ | ⟨z, _ | ⟨z', _ | ⟨z2, zs⟩⟩⟩
          · cases h
          · cases h
          · obtain ⟨h1, h⟩ := andB (show (decide (cmpOf o = some op) && (decide (cmpOf o' = some op') && (safe e && (pur e && (plainX z' && (okX c false a y && (okX c false b z && okX c false e z'))))))) = true from h)
            obtain ⟨h2, h⟩ := andB h
            obtain ⟨h3, h⟩ := andB h
            obtain ⟨h4, h⟩ := andB h
            obtain ⟨h5, h⟩ := andB h
            obtain ⟨h6, h⟩ := andB h
            obtain ⟨h7, h8⟩ := andB h
            cases t with
            | false => exact chain_sound hX (of_decide_eq_true h1) (of_decide_eq_true h2) h3 h4 (okX_ok a hX hT hE false y h6) (okX_ok b hX hT hE false z h7) (okX_ok e hX hT hE false z' h8) (plain_marks h5)
            | true => exact ⟨tchain_sound hX (of_decide_eq_true h1) (of_decide_eq_true h2) h3 h4 (okX_ok a hX hT hE false y h6) (okX_ok b hX hT hE false z h7) (okX_ok e hX hT hE false z' h8) (plain_marks h5), fun _ _ _ q => nomatch q⟩
          · cases h
        · cases h
      | _ => cases h
    · cases x <;> cases h
  | .and a b, c, ex, W, X, hX, hT, hE, t, x, h => by
    cases x with
    | BoolOp op xs p =>
      cases op with
      | Or => rcases xs with _ | ⟨y, _ | ⟨z, rest⟩⟩ <;> cases h
      | And =>
        rcases xs with _ | ⟨y, _ | ⟨z, rest⟩⟩
        · cases h
        · cases h
        · obtain ⟨h1, h2⟩ := andB h
          have ha := okX_ok a hX hT hE t y h1
          cases t with
          | false =>
            refine and_sound hX.K ha ?_
            cases rest with
            | nil => exact pe_one (okX_ok b hX hT hE false z h2)
            | cons r rest => exact okX_ok b hX hT hE false _ h2
          | true =>
            have hb : PW X (.BoolOp .And (z :: rest) p) (tTT G ex W T b) := by
              cases rest with
              | nil => exact pw_and1 (okX_ok b hX hT hE true z h2).1
              | cons r rest => exact (okX_ok b hX hT hE true _ h2).2 _ _ _ rfl
            have pw := tand_sound (pos := p) ha.1 hb
            exact ⟨pw.pt, fun op xs pos q => by cases q; exact pw⟩
    | _ => cases h
  | .or a b, c, ex, W, X, hX, hT, hE, t, x, h => by
    cases x with
    | BoolOp op xs p =>
      cases op with
      | And => rcases xs with _ | ⟨y, _ | ⟨z, rest⟩⟩ <;> cases h
      | Or =>
        rcases xs with _ | ⟨y, _ | ⟨z, rest⟩⟩
        · cases h
        · cases h
        · obtain ⟨h1, h2⟩ := andB h
          have ha := okX_ok a hX hT hE t y h1
          cases t with
          | false =>
            refine or_sound hX.K ha ?_
            cases rest with
            | nil => exact pe_one (okX_ok b hX hT hE false z h2)
            | cons r rest => exact okX_ok b hX hT hE false _ h2
          | true =>
            have hb : PW X (.BoolOp .Or (z :: rest) p) (tTT G ex W T b) := by
              cases rest with
              | nil => exact pw_or1 (okX_ok b hX hT hE true z h2).1
              | cons r rest => exact (okX_ok b hX hT hE true _ h2).2 _ _ _ rfl
            have pw := tor_sound (pos := p) ha.1 hb
            exact ⟨pw.pt, fun op xs pos q => by cases q; exact pw⟩
    | _ => cases h
  | .not a, c, ex, W, X, hX, hT, hE, t, x, h => by
    cases x with
    | UnaryOp op y p =>
      cases op with
      | Not =>
        have ha := okX_ok a hX hT hE t y h
        cases t with
        | false => exact not_sound hX.K ha
        | true => exact ⟨tnot_sound ha.1, fun _ _ _ q => nomatch q⟩
      | _ => cases h
    | _ => cases h
  | .ite q a b, c, ex, W, X, hX, hT, hE, t, x, h => by
    cases x with
    | IfExp y z w p =>
      obtain ⟨h0, h⟩ := andB h
      obtain ⟨h1, h⟩ := andB h
      obtain ⟨h2, h3⟩ := andB h
      exact Snd.no (ite_sound (okX_ok q hX hT hE true y h1).1 (okX_ok a hX hT hE false z h2) (okX_ok b hX hT hE false w h3)) h0
    | _ => cases h
  | .tup es, c, ex, W, X, hX, hT, hE, t, x, h => by
    cases x with
    | Tuple xs k p =>
      obtain ⟨h0, h⟩ := andB h
      exact Snd.no (tup_sound (okEs_ok es hX hT hE xs h)) h0
    | _ => cases h
  | .lst es, c, ex, W, X, hX, hT, hE, t, x, h => by
    cases x with
    | List xs p =>
      obtain ⟨h0, h⟩ := andB h
      exact Snd.no (lst_sound (okEs_ok es hX hT hE xs h)) h0
    | _ => cases h
  | .dict k es, c, ex, W, X, hX, hT, hE, t, x, h => by
    cases es with
    | nil =>
      cases x with
      | Dict ks vs p =>
        rcases ks with _ | ⟨_, _⟩ <;> rcases vs with _ | ⟨_, _⟩
        · exact Snd.no dict0_sound h
        · cases h
        · cases h
        · cases h
      | _ => cases h
    | cons _ _ => cases x <;> cases h
  | .call k j es, c, ex, W, X, hX, hT, hE, t, x, h => by
    cases k with
    | fn =>
      cases x with
      | Call f ys ks p =>
        cases f with
        | Name nm p1 =>
          rcases ys with _ | ⟨y, ys⟩ <;> rcases ks with _ | ⟨_, _⟩
          · cases h
          · cases h
          · obtain ⟨h0, h⟩ := andB (show (!c.hot && ((match c.fns[j]? with | some (.fn n) => decide (n = nm) | _ => false) && (glB c.sc nm && ((!hasBor es || purs es) && okAs c es (y :: ys))))) = true from h)
            obtain ⟨h1, h⟩ := andB h
            obtain ⟨h2, h⟩ := andB h
            obtain ⟨h3, h4⟩ := andB h
            have ha := okAs_ok es hX hT hE (y :: ys) h4
            refine Snd.val hX.K ?_ fun _ => rfl
            cases hj : c.fns[j]? with
            | none => rw [hj] at h1; cases h1
            | some fi =>
              rw [hj] at h1
              cases fi with
              | fn n =>
                have h1 := of_decide_eq_true h1
                subst h1
                obtain ⟨f, k1, k2⟩ := hT.fns j _ hj
                cases ha with
                | cons a1 a2 a3 a4 => exact call_sound hX (notB h0) k1 k2 h2 (orB h3) (.cons a1 a2 a3 a4)
              | _ => cases h1
          · cases h
        | _ => rcases ys with _ | ⟨y, ys⟩ <;> rcases ks with _ | ⟨_, _⟩ <;> cases h
      | _ => cases h
    | meth c' m =>
      cases x with
      | Call f ys ks p =>
        cases f with
        | Attribute o m' apos =>
          rcases ks with _ | ⟨_, _⟩
          · obtain ⟨h0, h⟩ := andB (show (!c.hot && ((match c.fns[j]? with | some (.meth c2 m2) => decide (c2 = c' ∧ m2 = m ∧ m = m') | _ => false) && (baseX o && (decide (ys.length < 20) && (apos.endLine == p.line && ((!hasBor es || purs es) && okAs c es (o :: ys))))))) = true from h)
            obtain ⟨h1, h⟩ := andB h
            obtain ⟨h2, h⟩ := andB h
            obtain ⟨h3, h⟩ := andB h
            obtain ⟨h4, h⟩ := andB h
            obtain ⟨h5, h6⟩ := andB h
            have ha := okAs_ok es hX hT hE (o :: ys) h6
            refine Snd.val hX.K ?_ fun _ => rfl
            cases hj : c.fns[j]? with
            | none => rw [hj] at h1; cases h1
            | some fi =>
              rw [hj] at h1
              cases fi with
              | meth c2 m2 =>
                obtain ⟨e1, e2, e3⟩ := of_decide_eq_true h1
                subst e1 e2 e3
                obtain ⟨f, k1, k2⟩ := hT.fns j _ hj
                cases ha with
                | cons a1 a2 a3 a4 => exact meth_sound hX (notB h0) k1 k2 (orB h5) (.cons a1 a2 a3 a4) h2 (of_decide_eq_true h3) h4
              | _ => cases h1
          · cases h
        | _ => rcases ks with _ | ⟨_, _⟩ <;> cases h
      | _ => cases h
    | prop c' m =>
      cases x with
      | Attribute o m' p =>
        obtain ⟨h0', h⟩ := andB (show (!t && (!c.hot && ((match c.fns[j]? with | some (.prop c2 m2) => decide (c2 = c' ∧ m2 = m ∧ m = m') | _ => false) && (baseX o && ((!hasBor es || purs es) && okAs c es [o]))))) = true from h)
        obtain ⟨h0, h⟩ := andB h
        obtain ⟨h1, h⟩ := andB h
        obtain ⟨h2, h⟩ := andB h
        obtain ⟨h5, h6⟩ := andB h
        have ha := okAs_ok es hX hT hE [o] h6
        refine Snd.no ?_ h0'
        cases hj : c.fns[j]? with
        | none => rw [hj] at h1; cases h1
        | some fi =>
          rw [hj] at h1
          cases fi with
          | prop c2 m2 =>
            obtain ⟨e1, e2, e3⟩ := of_decide_eq_true h1
            subst e1 e2 e3
            obtain ⟨f, k1, k2⟩ := hT.fns j _ hj
            cases ha with
            | cons a1 a2 a3 a4 =>
              cases a4
              exact prop_sound hX (notB h0) k1 k2 (orB h5) (.cons a1 a2 a3 .nil) h2
          | _ => cases h1
      | _ => cases h
  | .mcall k j pre i post, c, ex, W, X, hX, hT, hE, t, x, h => by
    cases k with
    | fn =>
      cases x with
      | Call f xs ks p =>
        cases f with
        | Name nm p1 =>
          rcases ks with _ | ⟨_, _⟩
          · obtain ⟨h0, h⟩ := andB (show (!c.hot && ((match c.fns[j]? with | some (.fn n) => decide (n = nm) | _ => false) && (glB c.sc nm && (okAs c pre (xs.take pre.length) && match xs.drop pre.length with | .Name x _ :: zs => slotB c i x && okAs c post zs | _ => false)))) = true from h)
            obtain ⟨h1, h⟩ := andB h
            obtain ⟨h2, h⟩ := andB h
            obtain ⟨h3, h4⟩ := andB h
            have ha := okAs_ok pre hX hT hE _ h3
            refine Snd.val hX.K ?_ fun _ => rfl
            split at h4
            · rename_i n p2 zs hd
              obtain ⟨h5, h6⟩ := andB h4
              have hz := okAs_ok post hX hT hE zs h6
              have hxs : xs = xs.take pre.length ++ .Name n p2 :: zs := by rw [← hd, List.take_append_drop]
              cases hj : c.fns[j]? with
              | none => rw [hj] at h1; cases h1
              | some fi =>
                rw [hj] at h1
                cases fi with
                | fn n =>
                  have h1 := of_decide_eq_true h1
                  subst h1
                  obtain ⟨f, k1, k2⟩ := hT.fns j _ hj
                  rw [hxs]
                  exact mcallF_sound hX (notB h0) k1 k2 h2 h5 ha hz
                | _ => cases h1
            · cases h4
          · cases h
        | _ => rcases ks with _ | ⟨_, _⟩ <;> cases h
      | _ => cases h
    | meth c' m =>
      cases pre with
      | cons _ _ => cases x <;> cases h
      | nil =>
        cases x with
        | Call f zs ks p =>
          cases f with
          | Attribute o m' apos =>
            cases o with
            | Name n p2 =>
              rcases ks with _ | ⟨_, _⟩
              · obtain ⟨h0, h⟩ := andB (show (!c.hot && ((match c.fns[j]? with | some (.meth c2 m2) => decide (c2 = c' ∧ m2 = m ∧ m = m') | _ => false) && (slotB c i n && (decide (zs.length < 20) && (apos.endLine == p.line && okAs c post zs))))) = true from h)
                obtain ⟨h1, h⟩ := andB h
                obtain ⟨h2, h⟩ := andB h
                obtain ⟨h3, h⟩ := andB h
                obtain ⟨h4, h5⟩ := andB h
                have hz := okAs_ok post hX hT hE zs h5
                refine Snd.val hX.K ?_ fun _ => rfl
                cases hj : c.fns[j]? with
                | none => rw [hj] at h1; cases h1
                | some fi =>
                  rw [hj] at h1
                  cases fi with
                  | meth c2 m2 =>
                    obtain ⟨e1, e2, e3⟩ := of_decide_eq_true h1
                    subst e1 e2 e3
                    obtain ⟨f, k1, k2⟩ := hT.fns j _ hj
                    exact mcallM_sound hX (notB h0) k1 k2 h2 hz (of_decide_eq_true h3) h4
                  | _ => cases h1
              · cases h
            | _ => rcases ks with _ | ⟨_, _⟩ <;> cases h
          | _ => rcases ks with _ | ⟨_, _⟩ <;> cases h
        | _ => cases h
    | prop c' m => cases x <;> cases h
  | .make j es, c, ex, W, X, hX, hT, hE, t, x, h => by
    cases x with
    | Call f ys ks p =>
      cases f with
      | Name nm p1 =>
        rcases ks with _ | ⟨_, _⟩
        · obtain ⟨h0', h⟩ := andB (show (!t && (!c.hot && ((match c.cls[j]? with | some (_, n) => decide (n = nm) | _ => false) && (glB c.sc nm && okAs c es ys)))) = true from h)
          obtain ⟨h0, h⟩ := andB h
          obtain ⟨h1, h⟩ := andB h
          obtain ⟨h2, h3⟩ := andB h
          have ha := okAs_ok es hX hT hE ys h3
          refine Snd.no ?_ h0'
          cases hj : c.cls[j]? with
          | none => rw [hj] at h1; cases h1
          | some cx =>
            rw [hj] at h1
            obtain ⟨c2, n⟩ := cx
            have h1 := of_decide_eq_true h1
            subst h1
            obtain ⟨cf, k1, k2⟩ := hT.cls j _ hj
            exact make_sound hX (notB h0) k1 k2 h2 ha
        · cases h
      | _ => rcases ks with _ | ⟨_, _⟩ <;> cases h
    | _ => cases h
  | .comp elt tg k ies ifs own, c, ex, W, X, hX, hT, hE, t, x, h => by
    cases x with
    | ListComp eltx gens scope p =>
      rcases gens with _ | ⟨⟨tgx, iterx, ifx, as⟩, _ | ⟨_, _⟩⟩
      · cases h
      · have h := h
        obtain ⟨h0', h⟩ := andB (show (!t && (!c.hot && (decide (as = 0) && (blkC c.N c.sc scope (ownP c own) && (subL (tgSl tg) own && (plainX iterx && ((match iterX c k tgx iterx with | some xs => okEs c ies xs | none => false) && (tgB (c.blk scope) tg tgx && (okIfs (c.blk scope) ifs ifx && okX (c.blk scope) false elt eltx))))))))) = true from h)
        obtain ⟨h0, h⟩ := andB h
        obtain ⟨has, g1⟩ := andB h
        have has := of_decide_eq_true has
        subst has
        obtain ⟨h1, g2⟩ := andB g1
        obtain ⟨h2, g3⟩ := andB g2
        obtain ⟨h3, g4⟩ := andB g3
        obtain ⟨h4, g5⟩ := andB g4
        obtain ⟨h5, g6⟩ := andB g5
        obtain ⟨h6, h7⟩ := andB g6
        refine Snd.no ?_ h0'
        cases hi : iterX c k tgx iterx with
        | none => rw [hi] at h4; cases h4
        | some xs =>
          rw [hi] at h4
          have hl := okEs_ok ies hX hT hE xs h4
          have := comp_sound (T := T) (elt := elt) (ifs := ifs) (pos := p) hX (notB h0) (pi_sound hX hi hl) h1 (by rw [ownP_snd]; exact subL_ok h2) h3 (fun s H C cl fp => pg_sound (hX.blk scope s H C cl fp) tg tgx h5)
            (fun s H C cl fp => okIfs_ok ifs (hX.blk scope s H C cl fp) (hT.blk scope) (XEOk.cold (notB h0)) ifx h6) (fun s H C cl fp => okX_ok elt (hX.blk scope s H C cl fp) (hT.blk scope) (XEOk.cold (notB h0)) false eltx h7)
          rw [ownP_snd] at this
          exact this
      · cases h
    | _ => cases h
  | .bor _, c, ex, W, X, hX, hT, hE, t, x, h => by cases x <;> cases h
  | .comp2 elt tg k ies tg' k' ies' own, c, ex, W, X, hX, hT, hE, t, x, h => by
    cases x with
    | ListComp eltx gens scope p =>
      rcases gens with _ | ⟨⟨tgx, iterx, ifx, as⟩, _ | ⟨⟨tgx', iterx', ifx', as'⟩, _ | ⟨g3, gens⟩⟩⟩
      · cases h
      · cases ifx <;> cases h
      · rcases ifx with _ | ⟨_, _⟩ <;> rcases ifx' with _ | ⟨_, _⟩
        · obtain ⟨h0', h⟩ := andB (show (!t && (!c.hot && (decide (as = 0 ∧ as' = 0) && (blkC c.N c.sc scope (ownP c own) && (subL (tgSl tg) own && (subL (tgSl tg') own && (plainX iterx && (plainX iterx' && ((match iterX c k tgx iterx with | some xs => okEs c ies xs | none => false) && (tgB (c.blk scope) tg tgx && ((match iterX (c.blk scope) k' tgx' iterx' with | some xs => okEs (c.blk scope) ies' xs | none => false) && (tgB (c.blk scope) tg' tgx' && okX (c.blk scope) false elt eltx)))))))))))) = true from h)
          obtain ⟨h0, h⟩ := andB h
          obtain ⟨hz, h⟩ := andB h
          obtain ⟨h1, h⟩ := andB h
          obtain ⟨h2, h⟩ := andB h
          obtain ⟨h2', h⟩ := andB h
          obtain ⟨h3, h⟩ := andB h
          obtain ⟨h3', h⟩ := andB h
          obtain ⟨h4, h⟩ := andB h
          obtain ⟨h5, h⟩ := andB h
          obtain ⟨h6, h⟩ := andB h
          obtain ⟨h7, h8⟩ := andB h
          have ha := (of_decide_eq_true hz).1
          have ha' := (of_decide_eq_true hz).2
          subst ha
          subst ha'
          clear hz
          refine Snd.no ?_ h0'
          cases hi : iterX c k tgx iterx with
          | none => rw [hi] at h4; cases h4
          | some xs =>
            rw [hi] at h4
            cases hi' : iterX (c.blk scope) k' tgx' iterx' with
            | none => rw [hi'] at h6; cases h6
            | some xs' =>
              rw [hi'] at h6
              have hl := okEs_ok ies hX hT hE xs h4
              have := comp2_sound (T := T) (elt := elt) (pos := p) hX (notB h0) (pi_sound hX hi hl) h1 (by rw [ownP_snd]; exact subL_ok h2) (by rw [ownP_snd]; exact subL_ok h2') h3 h3' (fun s H C cl fp => pg_sound (hX.blk scope s H C cl fp) tg tgx h5)
                (fun s H C cl fp => pi_sound (hX.blk scope s H C cl fp) hi' (okEs_ok ies' (hX.blk scope s H C cl fp) (hT.blk scope) (XEOk.cold (notB h0)) xs' h6)) (fun s H C cl fp => pg_sound (hX.blk scope s H C cl fp) tg' tgx' h7)
                (fun s H C cl fp => okX_ok elt (hX.blk scope s H C cl fp) (hT.blk scope) (XEOk.cold (notB h0)) false eltx h8)
              rw [ownP_snd] at this
              exact this
        · cases h
        · cases h
        · cases h
      · rcases ifx with _ | ⟨_, _⟩ <;> rcases ifx' with _ | ⟨_, _⟩ <;> cases h
    | _ => cases h
  | .pop _, c, ex, W, X, hX, hT, hE, t, x, h => by cases x <;> cases h
  | .isx cid, c, ex, W, X, hX, hT, hE, t, x, h => by
    obtain ⟨fn, p1, en, p2, cn, p3, p, rfl, h⟩ := isx_inv (show isxB c cid x = true from h)
    obtain ⟨h0, h⟩ := andB h
    obtain ⟨h1, h⟩ := andB h
    obtain ⟨h2, h⟩ := andB h
    obtain ⟨h3, h4⟩ := andB h
    refine Snd.val hX.K ?_ fun _ => rfl
    cases hi : c.exi with
    | none => rw [hi] at h4; cases h4
    | some i =>
      rw [hi] at h4
      obtain ⟨a, hex, rule⟩ := hE h0 i hi
      obtain ⟨f1, f2⟩ := andB h1
      have f1 := of_decide_eq_true f1
      subst f1
      obtain ⟨g1, g2, g3⟩ := glB_ok hX f2
      obtain ⟨u1, u2, u3⟩ := glB_ok hX h3
      obtain ⟨k1, k2, k3, k4⟩ := slotB_ok hX h4
      obtain ⟨m1, m2⟩ := hT.exh (cid, cn) (by simpa using h2)
      cases hx : T.exc with
      | none => exact ⟨fun pins s σ H Q I ⟨Z, ρ, F, env, ok⟩ => by
          rw [evE, hx] at ok
          exact ok.elim⟩
      | some xx =>
        obtain ⟨xc, xf⟩ := xx
        cases xf with
        | some n => exact ⟨fun pins s σ H Q I ⟨Z, ρ, F, env, ok⟩ => by
            rw [evE, hx] at ok
            exact ok.elim⟩
        | none =>
          obtain ⟨r1, r2⟩ := rule xc hx
          have gl : PE X (.Name cn p3) (tC (.ref (G.cad cid))) := pe_glob u1 (by rw [hX.mg]; exact m2) rfl u2
          refine PE.imp (pe_callB r2 g1 (blt_ok hX (by decide)) (by decide +kernel) (pa_cons (pe_var k1 k2 k3 k4) (pa_cons gl pa_nil rfl) rfl) g3 g2 rfl rfl) fun σ H Q ⟨Z, ρ, F, env, ok⟩ => ?_
          rw [evE, hx] at ok
          have hs := env.exs i _ hex
          refine ⟨_, hs, ?_⟩
          show rIsE X.K (G.cad xc) a [.ref a, .ref (G.cad cid)] H Q
          refine ⟨.ref (G.cad cid), .ref (G.cad cid), T.sub xc cid, rfl, fun u r => ?_, by rw [hX.K]; exact hT.exa.kit xc r1 cid m1, ok (.bl (T.sub xc cid)) Z H F [] (EPost.same env ⟨rfl, rfl⟩ List.nodup_nil (fun _ a ha => nomatch ha) fun a ha => nomatch ha)⟩
          exact r
  | .xfld, c, ex, W, X, hX, hT, hE, t, x, h => by cases x <;> cases h
theorem okAs_ok : ∀ (es : List E) {c : Ck} {ex : Option (Nat × V)} {W : WX} {X : Cx} (hX : XOk G c lv ex W X) (hT : TOk G c lv T) (hE : XEOk G c ex T X) (xs : List Expr), okAs c es xs = true → AllA G ex W T X es xs
  | [], c, ex, W, X, hX, hT, hE, xs, h => by
    cases xs with
    | nil => exact .nil
    | cons _ _ => cases h
  | e :: es, c, ex, W, X, hX, hT, hE, xs, h => by
    cases xs with
    | nil => cases e <;> cases h
    | cons x xs =>
      cases e with
      | bor a =>
        obtain ⟨h1, h⟩ := andB (show (plainX x && (isPlace a && (okX c false a x && okAs c es xs))) = true from h)
        obtain ⟨h2, h⟩ := andB h
        obtain ⟨h3, h4⟩ := andB h
        exact .cons (e := .bor a) (okX_ok a hX hT hE false x h3) (fun _ => h2) h1 (okAs_ok es hX hT hE xs h4)
      | _ =>
        obtain ⟨h1, h⟩ := andB h
        obtain ⟨h2, h⟩ := andB h
        obtain ⟨h3, h4⟩ := andB h
        exact .cons (okX_ok _ hX hT hE false x h3) (fun q => nomatch q) h1 (okAs_ok es hX hT hE xs h4)
theorem okIfs_ok : ∀ (es : List E) {c : Ck} {X : Cx} (hX : XOk G c lv none WF X) (hT : TOk G c lv T) (hE : XEOk G c none T X) (xs : List Expr), okIfs c es xs = true → PTs X xs (tIfs G T es)
  | [], c, X, hX, hT, hE, xs, h => by
    cases xs with
    | nil => exact pts_nilS
    | cons _ _ => cases h
  | [e], c, X, hX, hT, hE, xs, h => by
    rcases xs with _ | ⟨x, _ | ⟨_, _⟩⟩
    · cases h
    · exact pts_oneS (okX_ok e hX hT hE true x h).1
    · cases h
  | _ :: _ :: _, c, X, hX, hT, hE, xs, h => by cases xs <;> cases h
theorem okEs_ok : ∀ (es : List E) {c : Ck} {ex : Option (Nat × V)} {W : WX} {X : Cx} (hX : XOk G c lv ex W X) (hT : TOk G c lv T) (hE : XEOk G c ex T X) (xs : List Expr), okEs c es xs = true → AllE G ex W T X es xs
  | [], c, ex, W, X, hX, hT, hE, xs, h => by
    cases xs with
    | nil => exact .nil
    | cons _ _ => cases h
  | e :: es, c, ex, W, X, hX, hT, hE, xs, h => by
    cases xs with
    | nil => cases h
    | cons x xs =>
      obtain ⟨h1, h2⟩ := andB h
      obtain ⟨h2, h3⟩ := andB h2
      exact .cons (okX_ok e hX hT hE false x h2) h1 (okEs_ok es hX hT hE xs h3)
end
end
end Pd

set_option Elab.async false
set_option linter.all false
set_option maxRecDepth 100000
set_option maxHeartbeats 4000000
/-! PdT: the look at a statement's text, and that it suffices. -/
namespace Pd
open PySem PySem.Spec PyProof.Rows L2
/-- a comprehension that takes its name's place while it runs -/
def swLc (sc : Scope) (t : Str) (pos : Pos) (s : Scope) (p : Pos) : Bool := (if sc.kind.isAnnotationScope then ScopeKind.function else sc.kind) == .function && sc.names.lookup t == some .local && pos.line == p.line && !(s.names.any fun (n, k) => n == t && (k == .local || k == .cell))
theorem swLc_eq {elt : Expr} {gens : List Comprehension} {s : Scope} {p : Pos} {t : Str} {pos : Pos} {l : Nat} {env : PySem.Env} : swapsWith (.ListComp elt gens s p) (some (.Name t pos)) l env = pure (swLc env.scope t pos s p) := rfl
def unfz : E → E
  | .fz a => a
  | e => e
/-- name = comprehension -/
def okLc (c : Ck) (tg : Tg) (e : E) (t x : Expr) : Bool := match tg, unfz e, t, x with
  | .var i, .comp elt tg' k ies ifs own, .Name y py, .ListComp eltx [⟨tgx, iterx, ifx, as⟩] scope p => tgB c (.var i) (.Name y py) && (!c.hot && (decide (as = 0) && (blkC c.N c.sc scope (ownP c own) && (subL (tgSl tg') own && (plainX iterx && ((match iterX c k tgx iterx with
    | some xs => okEs c ies xs
    | none => false) && (tgB (c.blk scope) tg' tgx && (okIfs (c.blk scope) ifs ifx && okX (c.blk scope) false elt eltx))))))))
  | _, _, _, _ => false
/-- name = comprehension of two loops -/
def okLc2 (c : Ck) (tg : Tg) (e : E) (t x : Expr) : Bool := match tg, unfz e, t, x with
  | .var i, .comp2 elt tg1 k ies tg' k' ies' own, .Name y py, .ListComp eltx [⟨tgx, iterx, [], as⟩, ⟨tgx', iterx', [], as'⟩] scope p => tgB c (.var i) (.Name y py) && (!c.hot && (decide (as = 0 ∧ as' = 0) && (blkC c.N c.sc scope (ownP c own) && (subL (tgSl tg1) own && (subL (tgSl tg') own && (plainX iterx && (plainX iterx' && ((match iterX c k tgx iterx with
    | some xs => okEs c ies xs
    | none => false) && (tgB (c.blk scope) tg1 tgx && ((match iterX (c.blk scope) k' tgx' iterx' with
    | some xs => okEs (c.blk scope) ies' xs
    | none => false) && (tgB (c.blk scope) tg' tgx' && okX (c.blk scope) false elt eltx)))))))))))
  | _, _, _, _ => false
/-- a, b = x, y -/
def okPair (c : Ck) (tg : Tg) (e : E) (t x : Expr) : Bool := match tg, e, t, x with
  | .tup [.var i, .var j], .tup es, .Tuple [.Name y py, .Name z pz] _ _, .Tuple xs _ _ => tgB c (.var i) (.Name y py) && (tgB c (.var j) (.Name z pz) && (!c.hot && (!decide (i = j) && (okEs c es xs && (decide (xs.length = 2) &&
      (c.sc.names.lookup y == some .local && (c.sc.names.lookup z == some .local && ((if c.sc.kind.isAnnotationScope then ScopeKind.function else c.sc.kind) == .function && (py.line == pz.line && (!decide (y = z) && !xs.all (foldedForSure 8)))))))))))
  | _, _, _, _ => false
mutual
def okS (c : Ck) : S → Stmt → Bool
  | .asg tg e, .Assign [t] x _ => (notComp x && (notPair t x && (tgB c tg t && okX c false e x))) || (okLc c tg e t x || okLc2 c tg e t x)
  | .expr e, .Expr x _ => notComp x && okX c false e x
  | .ret e, .Return (some x) _ => okX c false e x
  | .retN, .Return none _ => true
  | .pass, .Pass _ => true
  | .brk, .Break _ => true
  | .cnt, .Continue _ => true
  | .ifs e a b, .If x p q _ => okX c true e x && (okB c a p && okB c b q)
  | .fors tg k ies body, .For t x b [] _ => !c.hot && (plainX x && ((match iterX c k t x with
    | some xs => okEs c ies xs
    | none => false) && (tgB c tg t && okB c body b)))
  | .whl _ e body, .While x b [] _ => okX c true e x && okB c body b
  | .raise cid none, .Raise (some (.Call (.Name n _) [.Constant (.str _) _ _] [] _)) none _ => !c.hot && (c.exn.contains (cid, n) && glB c.sc n)
  | .augix i o k e, .AugAssign (.Subscript (.Name n _) kx _) op x _ => decide (augOf o = some op) && (slotB c i n && (plainX kx && (okX c false k kx && okX c false e x)))
  | .aug i o e, .AugAssign (.Name n _) op x _ => decide (augOf o = some op) && (stB c i n && (!decide (c.exi = some i) && okX c false e x))
  | .setfld i f e, .Assign [.Attribute (.Name n _) f' _] x _ => decide (f = f') && (slotB c i n && okX c false e x)
  | .setix i [] k e, .Assign [.Subscript (.Name n _) kx _] x _ => plainX kx && (slotB c i n && (okX c false k kx && okX c false e x))
  | .app i e, .Expr (.Call (.Attribute (.Name n _) m apos) [x] [] cpos) _ => decide (m = "append") && (slotB c i n && (plainX x && (apos.endLine == cpos.line && okX c false e x)))
  | .try b hs, .Try body hds [] [] _ => !c.hot && (c.top && (c.exi.isNone && (okB c b body && (okN c hs hds || (!hds.isEmpty && okH c hs hds)))))
  | _, _ => false
/-- one handler with a name -/
def okN (c : Ck) : List (Nat × Option Nat × List S) → List ExceptHandler → Bool
  | [(cid, some i, ss)], [.ExceptHandler (some (.Name x _)) (some n) (b₀ :: suite) _] => c.exh.contains (cid, x) && (glB c.sc x && (decide (c.N[i]? = some n) && ((c.sc.names.lookup n == some .local) && okB { c with hot := true, exi := some i } ss (b₀ :: suite))))
  | _, _ => false
/-- handlers without names -/
def okH (c : Ck) : List (Nat × Option Nat × List S) → List ExceptHandler → Bool
  | [], [] => true
  | (cid, none, ss) :: hs, .ExceptHandler (some (.Name x _)) none (b₀ :: suite) _ :: hds => c.exh.contains (cid, x) && (glB c.sc x && (okB { c with hot := true } ss (b₀ :: suite) && okH c hs hds))
  | _, _ => false
def okB (c : Ck) : List S → List Stmt → Bool
  | [], [] => true
  | s :: ss, st :: sts => okS c s st && okB c ss sts
  | _, _ => false
end
section
variable {G : Gx} {lv : Nat} {T : Tab}
theorem gVar_tG {ex : Option (Nat × V)} {c : Ck} {W : WX} {X : Cx} (hX : XOk G c lv ex W X) {i : Nat} (hne : c.exi ≠ some i) {v : V} {σ : L2.St} {H : Hp} {Q : L2.St → Hp → Prop} (h : tG G ex (.var i) v σ H Q) : gName i v σ H Q := by
  obtain ⟨Z, ρ, F, d, f, ρ', env, r, nd, hd, ha, kk⟩ := h
  rw [asg] at ha
  obtain ⟨hi, rfl⟩ := if_some ha
  have e1 := env.put hi (x := some d) (y := some v) (f := f) (fun d' q => by cases q; exact ⟨v, rfl, r⟩) (fun q => nomatch q) nd (fun a ha j hj q => hd a ha ⟨j, q⟩) (fun j a q e => hne (by rw [← e]; exact hX.exi j a q))
  refine kk _ _ e1 (fun a ha => ?_) (by rw [List.length_set]) fun j hj => ?_
  · rcases inF_up ha with q | ⟨j, _, q⟩
    · exact .inr q
    · exact .inl ⟨j, q⟩
  · rw [List.getElem?_set_ne (fun q => hj (by rw [← q]; exact List.mem_singleton.mpr rfl))]
theorem fz_core {ex : Option (Nat × V)} {W : WX} {a : E} {σ : L2.St} {H : Hp} {Q : VK} (h : tEE G ex W T (.fz a) σ H Q) : tEE G ex W T a σ H Q := by
  obtain ⟨Z, ρ, F, env, ok⟩ := h
  rw [evE] at ok
  refine ⟨Z, ρ, F, env, (Okk.bind ok).imp (fun d ρ1 h v Z1 H1 F1 f1 p1 => ?_) fun _ _ q => q⟩
  obtain ⟨hc, kk⟩ := Okk.ite h
  have p2 := p1.unpl ((and_false_or hc).imp id not_false)
  have hown : ∀ a ∈ f1, Z1 a = none ∧ ∃ o, H1 a = some o := fun a ha => rep_own p2.rep ha
  have rz : Rep G (Pd.fz Z1 H1 f1) H1 (Pd.frz d) v [] := Rep.frz d v f1 p2.rep (fz_same fun a ha => (hown a ha).1) fun a ha => fz_at ha
  refine kk v (Pd.fz Z1 H1 f1) H1 F1 [] ⟨p1.env.fz hown (p2.val rfl), rz, List.nodup_nil, fun _ a ha => (nomatch ha), fun _ a ha => (nomatch ha), p1.pur, p1.ext.zz.trans (fz_same fun a ha => (hown a ha).1), p1.ext.fr, fun a o e n => ?_, fun a ha => ha.elim (fun q => p1.ext.np a (.inl q)) fun q => (nomatch q)⟩
  by_cases ha : a ∈ f1
  · exact p1.ext.np a (.inr ha)
  · unfold Pd.fz at e
    rw [if_neg ha] at e
    exact p1.ext.nz a o e n
theorem unfz_core {ex : Option (Nat × V)} {W : WX} {e a : E} (he : unfz e = a) {σ : L2.St} {H : Hp} {Q : VK} (h : tEE G ex W T e σ H Q) : tEE G ex W T a σ H Q := by
  subst he
  cases e <;> first | exact fz_core h | exact h
theorem unfz_sound {ex : Option (Nat × V)} {W : WX} {X : Cx} {e a : E} {x : Expr} (he : unfz e = a) (h : PE X x (tEE G ex W T a)) : PE X x (tEE G ex W T e) := PE.imp h fun σ H Q q => unfz_core he q
theorem lc_sound {c : Ck} {ex : Option (Nat × V)} {W : WX} {X : Cx} (hX : XOk G c lv ex W X) (hT : TOk G c lv T) (hE : XEOk G c ex T X) {tg : Tg} {e : E} {t x : Expr} {pos : Pos} (h : okLc c tg e t x = true) : PS X (.Assign [t] x pos) (tSS G ex W T (.asg tg e)) := by
  unfold okLc at h
  split at h
  · rename_i i elt tg' k ies ifs own y py eltx tgx iterx ifx as scope p he
    obtain ⟨ht, g0⟩ := andB h
    obtain ⟨h0, g1⟩ := andB g0
    obtain ⟨has, g1'⟩ := andB g1
    have has := of_decide_eq_true has
    subst has
    obtain ⟨h1, g2⟩ := andB g1'
    obtain ⟨h2, g3⟩ := andB g2
    obtain ⟨h3, g4⟩ := andB g3
    obtain ⟨h4, g5⟩ := andB g4
    obtain ⟨h5, g6⟩ := andB g5
    obtain ⟨h6, h7⟩ := andB g6
    cases hi : iterX c k tgx iterx with
    | none => rw [hi] at h4; cases h4
    | some xs =>
      rw [hi] at h4
      have hl := okEs_ok ies hX hT hE xs h4
      have hcalm : X.calm = true := by rw [hX.calm]; exact h0
      have blk : BlkOk X.N X.env.scope scope (ownP c own) := by rw [hX.N, hX.sc]; exact blkOk_by h1
      have hpi := pi_sound hX hi hl
      have hg := fun s H C cl fp => pg_sound (hX.blk scope s H C cl fp) tg' tgx h5
      have hts := fun s H C cl fp => okIfs_ok ifs (hX.blk scope s H C cl fp) (hT.blk scope) (XEOk.cold (notB h0)) ifx h6
      have hes := fun s H C cl fp => okX_ok elt (hX.blk scope s H C cl fp) (hT.blk scope) (XEOk.cold (notB h0)) false eltx h7
      have hsl : ∀ i ∈ tgSl tg', i ∈ own := subL_ok h2
      obtain ⟨ht1, ht2⟩ := andB ht
      obtain ⟨k1, k2, k3⟩ := stB_ok hX ht1
      have hne : c.exi ≠ some i := by simpa using ht2
      cases hsw : swLc X.env.scope y py scope p with
      | true =>
        have hyl : X.env.scope.names.lookup y = some .local := by
          have q := hsw
          unfold swLc at q
          simp only [Bool.and_eq_true] at q
          simpa using q.1.1.2
        have rule := ps_setLc (i := i) (y := y) (py := py) (spos := pos) hcalm hX.ndN k1 hyl (by rw [swLc_eq, hsw]) hpi blk hg hts hes (folded_plain h3 X.env)
        rw [ownP_snd] at rule
        refine PS.imp rule fun D σ H h => ?_
        have h' := asg_fin h
        exact comp_core hsl (tE_imp (unfz_core he h') fun v H1 q => gVar_tG hX hne q)
      | false =>
        have hx := comp_sound (T := T) (elt := elt) (ifs := ifs) (pos := p) hX (notB h0) hpi h1 (by rw [ownP_snd]; exact hsl) h3 hg hts hes
        rw [ownP_snd] at hx
        exact PS.imp (ps_asg (unfz_sound he hx) (pg_sound hX (.var i) _ ht) (by unfold swapsWithSole; dsimp only; rw [swLc_eq, hsw]) rfl rfl) fun D σ H h => asg_fin h
  · cases h
theorem swLc2_eq {elt : Expr} {gens : List Comprehension} {s : Scope} {p : Pos} {t : Str} {pos : Pos} {l : Nat} {env : PySem.Env} : swapsWith (.ListComp elt gens s p) (some (.Name t pos)) l env = pure (swLc env.scope t pos s p) := rfl
theorem lc2_sound {c : Ck} {ex : Option (Nat × V)} {W : WX} {X : Cx} (hX : XOk G c lv ex W X) (hT : TOk G c lv T) (hE : XEOk G c ex T X) {tg : Tg} {e : E} {t x : Expr} {pos : Pos} (h : okLc2 c tg e t x = true) : PS X (.Assign [t] x pos) (tSS G ex W T (.asg tg e)) := by
  unfold okLc2 at h
  split at h
  · rename_i i elt tg1 k ies tg' k' ies' own y py eltx tgx iterx as tgx' iterx' as' scope p he
    obtain ⟨ht, h⟩ := andB h
    obtain ⟨h0, h⟩ := andB h
    obtain ⟨hz, h⟩ := andB h
    obtain ⟨h1, h⟩ := andB h
    obtain ⟨h2, h⟩ := andB h
    obtain ⟨h2', h⟩ := andB h
    obtain ⟨h3, h⟩ := andB h
    obtain ⟨h3', h⟩ := andB h
    obtain ⟨h4, h⟩ := andB h
    obtain ⟨h5, h⟩ := andB h
    obtain ⟨h6, h⟩ := andB h
    obtain ⟨h7, h8⟩ := andB h
    have ha := (of_decide_eq_true hz).1
    have ha' := (of_decide_eq_true hz).2
    subst ha
    subst ha'
    clear hz
    cases hi : iterX c k tgx iterx with
    | none => rw [hi] at h4; cases h4
    | some xs =>
      rw [hi] at h4
      cases hi' : iterX (c.blk scope) k' tgx' iterx' with
      | none => rw [hi'] at h6; cases h6
      | some xs' =>
        rw [hi'] at h6
        have hl := okEs_ok ies hX hT hE xs h4
        have hcalm : X.calm = true := by rw [hX.calm]; exact h0
        have blk : BlkOk X.N X.env.scope scope (ownP c own) := by rw [hX.N, hX.sc]; exact blkOk_by h1
        have hpi := pi_sound hX hi hl
        have hg := fun s H C cl fp => pg_sound (hX.blk scope s H C cl fp) tg1 tgx h5
        have hpi' := fun s H C cl fp => pi_sound (hX.blk scope s H C cl fp) hi' (okEs_ok ies' (hX.blk scope s H C cl fp) (hT.blk scope) (XEOk.cold (notB h0)) xs' h6)
        have hg' := fun s H C cl fp => pg_sound (hX.blk scope s H C cl fp) tg' tgx' h7
        have hes := fun s H C cl fp => okX_ok elt (hX.blk scope s H C cl fp) (hT.blk scope) (XEOk.cold (notB h0)) false eltx h8
        have hsl : ∀ i ∈ tgSl tg1, i ∈ own := subL_ok h2
        have hsl' : ∀ i ∈ tgSl tg', i ∈ own := subL_ok h2'
        obtain ⟨ht1, ht2⟩ := andB ht
        obtain ⟨k1, k2, k3⟩ := stB_ok hX ht1
        have hne : c.exi ≠ some i := by simpa using ht2
        cases hsw : swLc X.env.scope y py scope p with
        | true =>
          have hyl : X.env.scope.names.lookup y = some .local := by
            have q := hsw
            unfold swLc at q
            simp only [Bool.and_eq_true] at q
            simpa using q.1.1.2
          have rule := ps_setLc2 (i := i) (y := y) (py := py) (spos := pos) (vs1 := tgSl tg') hcalm hX.ndN k1 hyl (by rw [swLc2_eq, hsw]) hpi blk (by rw [ownP_snd]; exact hsl') hg (fun _ _ _ _ _ => pts_nilS (G := G) (T := T)) hpi' hg' (fun _ _ _ _ _ => pts_nilS (G := G) (T := T)) hes (folded_plain h3 X.env) (fun env => folded_plain h3' env)
          rw [ownP_snd] at rule
          refine PS.imp rule fun D σ H h => ?_
          have h' := asg_fin h
          exact comp2_core hsl hsl' (tE_imp (unfz_core he h') fun v H1 q => gVar_tG hX hne q)
        | false =>
          have hx := comp2_sound (T := T) (elt := elt) (pos := p) hX (notB h0) hpi h1 (by rw [ownP_snd]; exact hsl) (by rw [ownP_snd]; exact hsl') h3 h3' hg hpi' hg' hes
          rw [ownP_snd] at hx
          exact PS.imp (ps_asg (unfz_sound he hx) (pg_sound hX (.var i) _ ht) (by unfold swapsWithSole; dsimp only; rw [swLc2_eq, hsw]) rfl rfl) fun D σ H h => asg_fin h
  · cases h
/-! ### try -/
theorem XOk.tr {c : Ck} {ex : Option (Nat × V)} {W W' : WX} {X : Cx} (h : XOk G c lv ex W X) (pn : List (Addr × Obj)) (xe : Value → Shared → Prop) (tk : Takes (X.tr pn xe) W') (po : PassesOwn (model X.prog X.w) X.A X.env xe) : XOk G c lv ex W' (X.tr pn xe) :=
  ⟨h.p, h.w, h.K, h.mg, h.base, h.N, h.nd, h.sc, h.st, h.un, h.calm, h.room, tk, po, h.top, h.blt, h.exi⟩
theorem XOk.suite {c : Ck} {ex : Option (Nat × V)} {W : WX} {X : Cx} (h : XOk G c lv ex W X) (a : Addr) (pn : List (Addr × Obj)) (o : Option Nat) (ex' : Option (Nat × V)) (he : ∀ j b, ex' = some (j, b) → o = some j) : XOk G { c with hot := true, exi := o } lv ex' WF (X.suite a pn) where
  p := h.p
  w := h.w
  K := h.K
  mg := h.mg
  base := h.base
  N := h.N
  nd := h.nd
  sc := h.sc
  st := h.st
  un := h.un
  calm := rfl
  room := fun q => nomatch q
  tk := fun u s' ⟨_, _, _, _, _, _, _, _, _, _, _, _, _, _, _, _, q⟩ => q.elim
  po := PassesOwn.never
  top := h.top
  blt := h.blt
  exi := he
theorem TOk.exc {c : Ck} {lv : Nat} {T : Tab} (h : TOk G c lv T) (x : Exn) (o : Option Nat) : TOk G { c with hot := true, exi := o } lv { T with exc := some x } := ⟨h.fld, h.gls, h.fns, h.cls, h.exn, h.exh, h.exa⟩
theorem EnvR.noex {ex : Option (Nat × V)} {Z H : Hp} {σ : L2.St} {ρ : Env} {F : Fp} (e : EnvR G ex Z H σ ρ F) : EnvR G none Z H σ ρ F := ⟨e.len, e.at_, e.off, e.nd, e.dj, e.sub, fun _ _ q => nomatch q⟩
/-- slot i is emptied -/
theorem EnvR.wipe1 {Z H : Hp} {σ : L2.St} {ρ : Env} {F : Fp} (e : EnvR G none Z H σ ρ F) {i : Nat} (hi : i < ρ.length) (y : Option V) : EnvR G none Z H (σ.set i y) (ρ.set i none) (upF F i []) :=
  e.put hi (x := none) (y := y) (f := []) (fun d q => nomatch q) (fun _ => rfl) List.nodup_nil (fun a ha => nomatch ha) (fun j a q => nomatch q)
theorem upF_sub {F : Fp} {i : Nat} {a : Addr} (h : InF (upF F i []) a) : InF F a := by
  rcases inF_up h with q | ⟨j, _, q⟩
  · cases q
  · exact ⟨j, q⟩
def tsN (G : Gx) (T : Tab) (o : Addr → Option (Nat × V)) (ss : List S) : Addr → Value → Option Addr → TS := fun a cls d D σ H => ∃ x : Exn, x.c ∈ G.exs ∧ cls = .ref (G.cad x.c) ∧ (x.f = none → d = none) ∧ tBB G (o a) WF { T with exc := some x } ss D σ H
theorem ExnIs.dict {x : Exn} {cls : Value} {dx : Option Addr} {H : Hp} (h : ExnIs G x cls dx H) (q : x.f = none) : dx = none := by
  obtain ⟨_, _, h⟩ := h
  rw [q] at h
  exact h
theorem tryN_sound {c : Ck} {ex : Option (Nat × V)} {W : WX} {X : Cx} (hX : XOk G c lv ex W X) (hT : TOk G c lv T) (htop : c.top = true) (hexi : c.exi = none) {cid i : Nat} {b ss : List S} {x n : Str} {np pos' pos : Pos} {body suite : List Stmt} {b₀ : Stmt}
    (hm : c.exh.contains (cid, x) = true) (hg : glB c.sc x = true) (hn : c.N[i]? = some n) (hl : (c.sc.names.lookup n == some .local) = true)
    (hb : ∀ (W' : WX) (X' : Cx), XOk G c lv ex W' X' → PSs X' body (tBB G ex W' T b))
    (hs : ∀ (y : Exn) (ex' : Option (Nat × V)) (X' : Cx), XOk G { c with hot := true, exi := some i } lv ex' WF X' → TOk G { c with hot := true, exi := some i } lv { T with exc := some y } → XEOk G { c with hot := true, exi := some i } ex' { T with exc := some y } X' → PSs X' (b₀ :: suite) (tBB G ex' WF { T with exc := some y } ss)) :
    PS X (.Try body [.ExceptHandler (some (.Name x np)) (some n) (b₀ :: suite) pos'] [] [] pos) (tSS G ex W T (.try b [(cid, some i, ss)])) := by
  have hex : ex = none := by
    cases ex with
    | none => rfl
    | some q => have := hX.exi q.1 q.2 rfl; rw [hexi] at this; cases this
  subst hex
  obtain ⟨t1, t2⟩ := hX.top htop
  obtain ⟨m1, m2⟩ := hT.exh (cid, x) (by simpa using hm)
  obtain ⟨g1, g2, _⟩ := glB_ok hX hg
  have nm : Names X x (.ref (G.cad cid)) := ⟨g1, g2, .inl (by rw [hX.mg]; exact m2)⟩
  have kd : X.env.kindOf n = some .local := by
    have := hX.sc
    have q : c.sc.names.lookup n = some .local := by simpa using hl
    show X.env.scope.names.lookup n = some .local
    rw [this]; exact q
  refine PS.imp (ps_try_as (i := i) (c := .ref (G.cad cid)) (Wout := W) (tb := fun W' => tBB G none W' T b) (ts := tsN G T (fun a => some (i, .ref a)) ss) t1 t2 hX.ndN (by rw [hX.N]; exact hn) kd nm hX.tk (fun W' pn xe tk po => hb W' _ (hX.tr pn xe tk po)) fun a oe cls d pn hz hf => ⟨fun pins s σ H D I ⟨y, e1, e2, e3, e4⟩ => ?_⟩) fun D σ H ⟨Z, ρ, F, env, ok⟩ => ?_
  · refine (hs y (some (i, .ref a)) (X.suite a ((a, oe) :: pn)) (hX.suite a _ _ _ fun j b q => by cases q; rfl) (hT.exc y _) (fun _ j q => ?_)).run pins s σ H D I e4
    cases q
    refine ⟨a, rfl, fun z q => ?_⟩
    cases q
    refine ⟨e1, call_isE (by rw [hX.K]; exact hT.exa.exc z e1) ?_ hf⟩
    subst e2
    rw [e3 rfl] at hz
    exact hz
  · rw [evS] at ok
    refine ⟨Z, ρ, F, env, ?_⟩
    cases hr : evB T b ρ with
    | nx ρ1 => rw [hr] at ok; exact fun σ' Z' H' F' e x => ok σ' Z' H' F' e (x.wk fun q => nomatch q)
    | bk ρ1 => rw [hr] at ok; exact fun σ' Z' H' F' e x => ok σ' Z' H' F' e (x.wk fun q => nomatch q)
    | ct ρ1 => rw [hr] at ok; exact fun σ' Z' H' F' e x => ok σ' Z' H' F' e (x.wk fun q => nomatch q)
    | rt d ρ1 => rw [hr] at ok; exact fun v σ' Z' H' F' f e r nd np x => ok v σ' Z' H' F' f e r nd np (x.wk fun q => nomatch q)
    | stk => rw [hr] at ok; exact ok.elim
    | ex y ρ1 =>
      rw [hr] at ok
      replace ok : OkS G none W false Z H (InF F) D (evH T y [(cid, some i, ss)] ρ1) := ok
      rw [evH] at ok
      intro cls dx σ' Z' H' F' e xt is
      have yk : y.c ∈ G.exs := is.1
      refine ⟨T.sub y.c cid, by rw [hX.K, is.2.1]; exact hT.exa.exm y.c yk cid m1, fun hy a na => ?_, fun hno => ?_⟩
      · rw [if_pos hy] at ok
        by_cases hi : i < ρ1.length
        · rw [if_pos hi] at ok
          have e1 := e.wipe1 hi (some (.ref a))
          have hiσ : i < σ'.length := by rw [← e.len]; exact hi
          have e2 : EnvR G (some (i, .ref a)) Z' H' (σ'.set i (some (.ref a))) (ρ1.set i none) (upF F' i []) := ⟨e1.len, e1.at_, e1.off, e1.nd, e1.dj, e1.sub, fun j b q => by cases q; rw [List.getElem?_set_self hiσ]⟩
          have base : ∀ {q : Bool} {Z2 H2 : Hp} {P2 : Addr → Prop}, Ext q Z' H' (InF (upF F' i [])) Z2 H2 P2 → Ext false Z H (InF F) Z2 H2 P2 := fun y => (xt.wk (q' := false) fun q => nomatch q).trans ((Ext.refl.imp fun a h => upF_sub h).trans (y.wk (q' := false) fun q => nomatch q))
          refine ⟨y, yk, is.2.1, is.dict, Z', _, _, e2, ?_⟩
          cases hq : evB { T with exc := some y } ss (ρ1.set i none) with
          | nx ρ2 =>
            rw [hq] at ok
            intro σ2 Z2 H2 F2 e3 x3
            by_cases hi2 : i < ρ2.length
            · exact ok _ Z2 H2 _ (e3.noex.wipe1 hi2 none) ((base x3).imp fun a h => upF_sub h)
            · have h1 : ρ2.set i none = ρ2 := List.set_eq_of_length_le (by omega)
              have h2 : σ2.set i none = σ2 := List.set_eq_of_length_le (by rw [← e3.len]; omega)
              show D.nx (σ2.set i none) H2
              rw [h2]
              have ok : OkS G none W false Z H (InF F) D (.nx (ρ2.set i none)) := ok
              rw [h1] at ok
              exact ok _ Z2 H2 F2 e3.noex (base x3)
          | bk ρ2 =>
            rw [hq] at ok
            intro σ2 Z2 H2 F2 e3 x3
            by_cases hi2 : i < ρ2.length
            · exact ok _ Z2 H2 _ (e3.noex.wipe1 hi2 none) ((base x3).imp fun a h => upF_sub h)
            · have h1 : ρ2.set i none = ρ2 := List.set_eq_of_length_le (by omega)
              have h2 : σ2.set i none = σ2 := List.set_eq_of_length_le (by rw [← e3.len]; omega)
              show D.bk (σ2.set i none) H2
              rw [h2]
              have ok : OkS G none W false Z H (InF F) D (.bk (ρ2.set i none)) := ok
              rw [h1] at ok
              exact ok _ Z2 H2 F2 e3.noex (base x3)
          | ct ρ2 =>
            rw [hq] at ok
            intro σ2 Z2 H2 F2 e3 x3
            by_cases hi2 : i < ρ2.length
            · exact ok _ Z2 H2 _ (e3.noex.wipe1 hi2 none) ((base x3).imp fun a h => upF_sub h)
            · have h1 : ρ2.set i none = ρ2 := List.set_eq_of_length_le (by omega)
              have h2 : σ2.set i none = σ2 := List.set_eq_of_length_le (by rw [← e3.len]; omega)
              show D.ct (σ2.set i none) H2
              rw [h2]
              have ok : OkS G none W false Z H (InF F) D (.ct (ρ2.set i none)) := ok
              rw [h1] at ok
              exact ok _ Z2 H2 F2 e3.noex (base x3)
          | rt d ρ2 =>
            rw [hq] at ok
            intro v σ2 Z2 H2 F2 f e3 r nd np x3
            exact ok v σ2 Z2 H2 F2 f e3.noex r nd np (base x3)
          | ex z ρ2 => rw [hq] at ok; exact ok.elim
          | stk => rw [hq] at ok; exact ok.elim
        · rw [if_neg hi] at ok; exact ok.elim
      · rw [if_neg (by rw [hno]; exact Bool.false_ne_true), evH] at ok
        exact ok cls dx σ' Z' H' F' e (xt.wk fun q => nomatch q) is
def hsL (G : Gx) (T : Tab) (hs : List (Nat × Option Nat × List S)) : List (Value × (Addr → Value → Option Addr → TS)) := hs.map fun h => (.ref (G.cad h.1), tsN G T (fun _ => none) h.2.2)
def noNames : List (Nat × Option Nat × List S) → Bool
  | [] => true
  | (_, none, _) :: hs => noNames hs
  | _ :: _ => false
theorem many_fin {W : WX} {K : PySem.W.Frag} (hK : K = G.K) {D : Ends} {y : Exn} {cls : Value} {dx : Option Addr} {Z H : Hp} {P : Addr → Prop} {σ' : L2.St} {Z' H' : Hp} {F' : Fp} {ρ1 : Env} (ha : ExAll G T.sub) (e : EnvR G none Z' H' σ' ρ1 F') (xt : Ext false Z H P Z' H' (InF F')) (is : ExnIs G y cls dx H') :
    ∀ hs : List (Nat × Option Nat × List S), noNames hs = true → (∀ h ∈ hs, h.1 ∈ G.exs) → OkS G none W false Z H P D (evH T y hs ρ1) → wMany K W D (hsL G T hs) cls dx σ' H'
  | [], _, _, ok => by
    rw [evH] at ok
    exact ok cls dx σ' Z' H' F' e xt is
  | (cid, some _, ss) :: hs, hn, _, _ => nomatch hn
  | (cid, none, ss) :: hs, hn, hm, ok => by
    rw [evH] at ok
    refine ⟨T.sub y.c cid, by rw [hK, is.2.1]; exact ha.exm y.c is.1 cid (hm _ List.mem_cons_self), fun hy a na => ⟨y, is.1, is.2.1, is.dict, Z', ρ1, F', e, ?_⟩, fun hno => ?_⟩
    · rw [if_pos hy] at ok
      cases hq : evB { T with exc := some y } ss ρ1 with
      | nx ρ2 => rw [hq] at ok; exact fun σ2 Z2 H2 F2 e2 x2 => ok σ2 Z2 H2 F2 e2 (xt.trans (x2.wk fun q => nomatch q))
      | bk ρ2 => rw [hq] at ok; exact fun σ2 Z2 H2 F2 e2 x2 => ok σ2 Z2 H2 F2 e2 (xt.trans (x2.wk fun q => nomatch q))
      | ct ρ2 => rw [hq] at ok; exact fun σ2 Z2 H2 F2 e2 x2 => ok σ2 Z2 H2 F2 e2 (xt.trans (x2.wk fun q => nomatch q))
      | rt d ρ2 => rw [hq] at ok; exact fun v σ2 Z2 H2 F2 f e2 r nd np x2 => ok v σ2 Z2 H2 F2 f e2 r nd np (xt.trans (x2.wk fun q => nomatch q))
      | ex z ρ2 => rw [hq] at ok; exact ok.elim
      | stk => rw [hq] at ok; exact ok.elim
    · rw [if_neg (by rw [hno]; exact Bool.false_ne_true)] at ok
      exact many_fin hK ha e xt is hs hn (fun h q => hm h (List.mem_cons_of_mem _ q)) ok
theorem tryH_sound {c : Ck} {ex : Option (Nat × V)} {W : WX} {X : Cx} (hX : XOk G c lv ex W X) (hT : TOk G c lv T) (htop : c.top = true) (hexi : c.exi = none) {b : List S} {hs : List (Nat × Option Nat × List S)} {pos : Pos} {body : List Stmt} {h0 : ExceptHandler} {hds : List ExceptHandler}
    (hn : noNames hs = true) (hm : ∀ h ∈ hs, h.1 ∈ G.exs) (hb : ∀ (W' : WX) (X' : Cx), XOk G c lv ex W' X' → PSs X' body (tBB G ex W' T b)) (hh : HdsOk X (h0 :: hds) (hsL G T hs)) :
    PS X (.Try body (h0 :: hds) [] [] pos) (tSS G ex W T (.try b hs)) := by
  have hex : ex = none := by
    cases ex with
    | none => rfl
    | some q => have := hX.exi q.1 q.2 rfl; rw [hexi] at this; cases this
  subst hex
  obtain ⟨t1, t2⟩ := hX.top htop
  refine PS.imp (ps_try_many (Wout := W) (tb := fun W' => tBB G none W' T b) t1 t2 hX.tk (fun W' pn xe tk po => hb W' _ (hX.tr pn xe tk po)) hh) fun D σ H ⟨Z, ρ, F, env, ok⟩ => ?_
  rw [evS] at ok
  refine ⟨Z, ρ, F, env, ?_⟩
  cases hr : evB T b ρ with
  | nx ρ1 => rw [hr] at ok; exact fun σ' Z' H' F' e x => ok σ' Z' H' F' e (x.wk fun q => nomatch q)
  | bk ρ1 => rw [hr] at ok; exact fun σ' Z' H' F' e x => ok σ' Z' H' F' e (x.wk fun q => nomatch q)
  | ct ρ1 => rw [hr] at ok; exact fun σ' Z' H' F' e x => ok σ' Z' H' F' e (x.wk fun q => nomatch q)
  | rt d ρ1 => rw [hr] at ok; exact fun v σ' Z' H' F' f e r nd np x => ok v σ' Z' H' F' f e r nd np (x.wk fun q => nomatch q)
  | stk => rw [hr] at ok; exact ok.elim
  | ex y ρ1 =>
    rw [hr] at ok
    exact fun cls dx σ' Z' H' F' e xt is => many_fin hX.K hT.exa e (xt.wk fun q => nomatch q) is hs hn hm ok
theorem suite_sound {X : Cx} {o : Addr → Option (Nat × V)} {ss : List S} {sts : List Stmt} {a : Addr} {oe : Obj} {cls : Value} {d : Option Addr} {pn : List (Addr × Obj)}
    (h : ∀ y : Exn, y.c ∈ G.exs → cls = .ref (G.cad y.c) → (y.f = none → d = none) → PSs (X.suite a ((a, oe) :: pn)) sts (tBB G (o a) WF { T with exc := some y } ss)) : PSs (X.suite a ((a, oe) :: pn)) sts (tsN G T o ss a cls d) :=
  ⟨fun pins s σ H D I ⟨y, e1, e2, e3, e4⟩ => (h y e1 e2 e3).run pins s σ H D I e4⟩
theorem raise_sound {c : Ck} {ex : Option (Nat × V)} {W : WX} {X : Cx} (hX : XOk G c lv ex W X) (hc : c.hot = false) {cid : Nat} {n m : Str} {j : Nat} {p1 p2 p3 pos : Pos} (h : ExnC G (cid, n)) (hg : glB c.sc n = true) :
    PS X (.Raise (some (.Call (.Name n p1) [.Constant (.str m) j p2] [] p3)) none pos) (tSS G ex W T (.raise cid none)) := by
  obtain ⟨qm, B, newId, initId, bmB, f, q1, q2, q3, q4, q5⟩ := h
  have hcalm : X.calm = true := by rw [hX.calm, hc]; rfl
  obtain ⟨g1, g2, _⟩ := glB_ok hX hg
  rw [← hX.K] at q1 q3 q4 q5
  rw [← hX.mg] at q2
  refine PS.imp (ps_raise hcalm hX.tk (pmk_own f q1 q2 q3 (raises_own q4 q5) g1 g2)) fun D σ H ⟨Z, ρ, F, env, ok⟩ => ?_
  rw [evS] at ok
  exact ok _ none σ Z H F env Ext.refl ⟨qm, rfl, rfl⟩
theorem okN_inv {c : Ck} {cid i : Nat} {ss : List S} {hds : List ExceptHandler} (h : okN c [(cid, some i, ss)] hds = true) : ∃ x np n b0 suite pos', hds = [.ExceptHandler (some (.Name x np)) (some n) (b0 :: suite) pos'] ∧
    (c.exh.contains (cid, x) && (glB c.sc x && (decide (c.N[i]? = some n) && ((c.sc.names.lookup n == some .local) && okB { c with hot := true, exi := some i } ss (b0 :: suite))))) = true := by
  unfold okN at h
  split at h
  · rename_i e1
    cases e1
    exact ⟨_, _, _, _, _, _, rfl, h⟩
  · cases h
theorem okH_inv {c : Ck} {cid : Nat} {ss : List S} {hs : List (Nat × Option Nat × List S)} {hds : List ExceptHandler} (h : okH c ((cid, none, ss) :: hs) hds = true) : ∃ x np b0 suite pos' hds', hds = .ExceptHandler (some (.Name x np)) none (b0 :: suite) pos' :: hds' ∧
    (c.exh.contains (cid, x) && (glB c.sc x && (okB { c with hot := true } ss (b0 :: suite) && okH c hs hds'))) = true := by
  unfold okH at h
  split at h
  · rename_i e1
    cases e1
  · rename_i e1
    cases e1
    exact ⟨_, _, _, _, _, _, rfl, h⟩
  · cases h
mutual
theorem okS_ok : ∀ (s : S) {T : Tab} {c : Ck} {ex : Option (Nat × V)} {W : WX} {X : Cx} (hX : XOk G c lv ex W X) (hT : TOk G c lv T) (hE : XEOk G c ex T X) (st : Stmt), okS c s st = true → PS X st (tSS G ex W T s)
  | .asg tg e, T, c, ex, W, X, hX, hT, hE, st, h => by
    cases st with
    | Assign ts x p =>
      rcases ts with _ | ⟨t, _ | ⟨_, _⟩⟩
      · cases h
      · rcases Bool.or_eq_true_iff.mp (show ((notComp x && (notPair t x && (tgB c tg t && okX c false e x))) || (okLc c tg e t x || okLc2 c tg e t x)) = true from h) with h | h
        · obtain ⟨h1, h⟩ := andB h
          obtain ⟨h2, h⟩ := andB h
          obtain ⟨h3, h4⟩ := andB h
          exact asg_sound hX (okX_ok e hX hT hE false x h4) h3 h1 h2
        · rcases Bool.or_eq_true_iff.mp h with h | h
          · exact lc_sound hX hT hE h
          · exact lc2_sound hX hT hE h
      · cases h
    | _ => cases h
  | .expr e, T, c, ex, W, X, hX, hT, hE, st, h => by
    cases st with
    | Expr x p =>
      obtain ⟨h1, h2⟩ := andB h
      exact expr_sound (okX_ok e hX hT hE false x h2) h1
    | _ => cases h
  | .ret e, T, c, ex, W, X, hX, hT, hE, st, h => by
    cases st with
    | Return o p =>
      cases o with
      | none => cases h
      | some x => exact ret_sound (okX_ok e hX hT hE false x h)
    | _ => cases h
  | .retN, T, c, ex, W, X, hX, hT, hE, st, h => by
    cases st with
    | Return o p =>
      cases o with
      | none => exact retN_sound
      | some x => cases h
    | _ => cases h
  | .pass, T, c, ex, W, X, hX, hT, hE, st, h => by
    cases st with
    | Pass p => exact pass_sound
    | _ => cases h
  | .brk, T, c, ex, W, X, hX, hT, hE, st, h => by
    cases st with
    | Break p => exact brk_sound
    | _ => cases h
  | .cnt, T, c, ex, W, X, hX, hT, hE, st, h => by
    cases st with
    | Continue p => exact cnt_sound
    | _ => cases h
  | .ifs e a b, T, c, ex, W, X, hX, hT, hE, st, h => by
    cases st with
    | If x p q pos =>
      obtain ⟨h1, h⟩ := andB h
      obtain ⟨h2, h3⟩ := andB h
      exact if_sound (okX_ok e hX hT hE true x h1).1 (okB_ok a hX hT hE p h2) (okB_ok b hX hT hE q h3)
    | _ => cases h
  | .fors tg k ies body, T, c, ex, W, X, hX, hT, hE, st, h => by
    cases st with
    | For t x b o pos =>
      cases o with
      | cons _ _ => cases h
      | nil =>
        obtain ⟨h0, h⟩ := andB (show (!c.hot && (plainX x && ((match iterX c k t x with | some xs => okEs c ies xs | none => false) && (tgB c tg t && okB c body b)))) = true from h)
        obtain ⟨h1, h⟩ := andB h
        obtain ⟨h2, h⟩ := andB h
        obtain ⟨h3, h4⟩ := andB h
        cases hi : iterX c k t x with
        | none => rw [hi] at h2; cases h2
        | some xs =>
          rw [hi] at h2
          exact for_sound hX (notB h0) (pi_sound hX hi (okEs_ok ies hX hT hE xs h2)) h3 (okB_ok body hX hT hE b h4) h1
    | _ => cases h
  | .whl n e body, T, c, ex, W, X, hX, hT, hE, st, h => by
    cases st with
    | While x b o pos =>
      cases o with
      | cons _ _ => cases h
      | nil =>
        obtain ⟨h1, h2⟩ := andB h
        exact while_sound hX (okX_ok e hX hT hE true x h1).1 (okB_ok body hX hT hE b h2)
    | _ => cases h
  | .app i e, T, c, ex, W, X, hX, hT, hE, st, h => by
    cases st with
    | Expr y p =>
      cases y with
      | Call f ys ks cpos =>
        cases f with
        | Attribute o m apos =>
          cases o with
          | Name n p2 =>
            rcases ys with _ | ⟨x, _ | ⟨_, _⟩⟩ <;> rcases ks with _ | ⟨_, _⟩
            · cases h
            · cases h
            · obtain ⟨h1, h⟩ := andB h
              obtain ⟨h2, h⟩ := andB h
              obtain ⟨h3, h⟩ := andB h
              obtain ⟨h4, h5⟩ := andB h
              have h1 := of_decide_eq_true h1
              subst h1
              exact app_sound hX h2 (okX_ok e hX hT hE false x h5) h3 h4
            · cases h
            · cases h
            · cases h
          | _ => rcases ys with _ | ⟨x, _ | ⟨_, _⟩⟩ <;> rcases ks with _ | ⟨_, _⟩ <;> cases h
        | _ => rcases ys with _ | ⟨x, _ | ⟨_, _⟩⟩ <;> rcases ks with _ | ⟨_, _⟩ <;> cases h
      | _ => cases h
    | _ => cases h
  | .aug i o e, T, c, ex, W, X, hX, hT, hE, st, h => by
    cases st with
    | AugAssign t op x p =>
      cases t with
      | Name n p2 =>
        obtain ⟨h1, h⟩ := andB h
        obtain ⟨h2, h⟩ := andB h
        obtain ⟨h3, h4⟩ := andB h
        exact aug_sound hX (of_decide_eq_true h1) h2 (by simpa using h3) (okX_ok e hX hT hE false x h4)
      | _ => cases h
    | _ => cases h
  | .ext _ _, T, c, ex, W, X, hX, hT, hE, st, h => by cases st <;> cases h
  | .setix i ps k e, T, c, ex, W, X, hX, hT, hE, st, h => by
    cases ps with
    | cons _ _ => cases st <;> cases h
    | nil =>
      cases st with
      | Assign ts x p =>
        rcases ts with _ | ⟨t, _ | ⟨_, _⟩⟩
        · cases h
        · cases t with
          | Subscript o kx p1 =>
            cases o with
            | Name n p2 =>
              obtain ⟨h1, h⟩ := andB h
              obtain ⟨h2, h⟩ := andB h
              obtain ⟨h3, h4⟩ := andB h
              exact setix_sound hX h2 h1 (okX_ok k hX hT hE false kx h3) (okX_ok e hX hT hE false x h4)
            | _ => cases h
          | _ => cases h
        · cases t with
          | Subscript o kx p1 => cases o <;> cases h
          | _ => cases h
      | _ => cases h
  | .augix i o k e, T, c, ex, W, X, hX, hT, hE, st, h => by
    cases st with
    | AugAssign t op x p =>
      cases t with
      | Subscript o kx p1 =>
        cases o with
        | Name n p2 =>
          obtain ⟨h1, h⟩ := andB h
          obtain ⟨h2, h⟩ := andB h
          obtain ⟨h3, h⟩ := andB h
          obtain ⟨h4, h5⟩ := andB h
          exact augix_sound hX (of_decide_eq_true h1) h2 h3 (okX_ok k hX hT hE false kx h4) (okX_ok e hX hT hE false x h5)
        | _ => cases h
      | _ => cases h
    | _ => cases h
  | .setfld i f e, T, c, ex, W, X, hX, hT, hE, st, h => by
    cases st with
    | Assign ts x p =>
      rcases ts with _ | ⟨t, _ | ⟨_, _⟩⟩
      · cases h
      · cases t with
        | Attribute o f' p1 =>
          cases o with
          | Name n p2 =>
            obtain ⟨h1, h⟩ := andB h
            obtain ⟨h2, h3⟩ := andB h
            have h1 := of_decide_eq_true h1
            subst h1
            exact setfld_sound hX hT.fld h2 (okX_ok e hX hT hE false x h3)
          | _ => cases h
        | _ => cases h
      · cases t with
        | Attribute o f' p1 => cases o <;> cases h
        | _ => cases h
    | _ => cases h
  | .appP _ _ _, T, c, ex, W, X, hX, hT, hE, st, h => by cases st <;> cases h
  | .dput _ _ _, T, c, ex, W, X, hX, hT, hE, st, h => by cases st <;> cases h
  | .raise cid o, T, c, ex, W, X, hX, hT, hE, st, h => by
    cases o with
    | some _ => cases st <;> cases h
    | none =>
      cases st with
      | Raise o f p =>
        cases o with
        | none => cases h
        | some y =>
          cases y with
          | Call g xs ks p3 =>
            cases g with
            | Name n p1 =>
              rcases xs with _ | ⟨x, _ | ⟨_, _⟩⟩
              · cases h
              · cases x with
                | Constant k j p2 =>
                  cases k with
                  | str m =>
                    cases ks with
                    | cons _ _ => cases h
                    | nil =>
                      cases f with
                      | some _ => cases h
                      | none =>
                        obtain ⟨h1, h⟩ := andB (show (!c.hot && (c.exn.contains (cid, n) && glB c.sc n)) = true from h)
                        obtain ⟨h2, h3⟩ := andB h
                        exact raise_sound hX (notB h1) (hT.exn _ (by simpa using h2)) h3
                  | _ => cases h
                | _ => cases h
              · cases x with
                | Constant k j p2 => cases k <;> cases h
                | _ => cases h
            | _ => cases h
          | _ => cases h
      | _ => cases h
  | .try b hs, T, c, ex, W, X, hX, hT, hE, st, h => by
    cases st with
    | Try body hds o f p =>
      cases o with
      | cons _ _ => cases f <;> cases h
      | nil =>
        cases f with
        | cons _ _ => cases h
        | nil =>
          obtain ⟨h0, h⟩ := andB (show (!c.hot && (c.top && (c.exi.isNone && (okB c b body && (okN c hs hds || (!hds.isEmpty && okH c hs hds)))))) = true from h)
          obtain ⟨h1, h⟩ := andB h
          obtain ⟨h2, h⟩ := andB h
          obtain ⟨h3, h⟩ := andB h
          have hexi : c.exi = none := Option.isNone_iff_eq_none.mp h2
          have hb : ∀ (W' : WX) (X' : Cx), XOk G c lv ex W' X' → PSs X' body (tBB G ex W' T b) := fun W' X' hX' => okB_ok b hX' hT (XEOk.cold (notB h0)) body h3
          rcases Bool.or_eq_true_iff.mp h with h | h
          · exact okN_ok hs hX hT h1 hexi hds p hb h
          · obtain ⟨h4, h5⟩ := andB h
            cases hds with
            | nil => cases h4
            | cons hd hds =>
              obtain ⟨k1, k2, k3⟩ := okH_ok hs hX hT hexi (hd :: hds) h5
              exact tryH_sound hX hT h1 hexi k1 k2 hb k3
    | _ => cases h
theorem okN_ok : ∀ (hs : List (Nat × Option Nat × List S)) {T : Tab} {c : Ck} {ex : Option (Nat × V)} {W : WX} {X : Cx} {b : List S} {body : List Stmt} (hX : XOk G c lv ex W X) (hT : TOk G c lv T) (htop : c.top = true) (hexi : c.exi = none) (hds : List ExceptHandler) (p : Pos)
    (hb : ∀ (W' : WX) (X' : Cx), XOk G c lv ex W' X' → PSs X' body (tBB G ex W' T b)), okN c hs hds = true → PS X (.Try body hds [] [] p) (tSS G ex W T (.try b hs))
  | [], T, c, ex, W, X, b, body, hX, hT, htop, hexi, hds, p, hb, h => nomatch h
  | [(cid, none, ss)], T, c, ex, W, X, b, body, hX, hT, htop, hexi, hds, p, hb, h => nomatch h
  | (cid, o, ss) :: h2 :: hs, T, c, ex, W, X, b, body, hX, hT, htop, hexi, hds, p, hb, h => by cases o <;> cases h
  | [(cid, some i, ss)], T, c, ex, W, X, b, body, hX, hT, htop, hexi, hds, p, hb, h => by
    obtain ⟨x, np, n, b0, suite, pos', rfl, h⟩ := okN_inv h
    obtain ⟨h1, h⟩ := andB h
    obtain ⟨h2, h⟩ := andB h
    obtain ⟨h3, h⟩ := andB h
    obtain ⟨h4, h5⟩ := andB h
    exact tryN_sound hX hT htop hexi h1 h2 (of_decide_eq_true h3) h4 hb fun y ex' X' hX' hT' hE' => okB_ok ss hX' hT' hE' (b0 :: suite) h5
theorem okH_ok : ∀ (hs : List (Nat × Option Nat × List S)) {T : Tab} {c : Ck} {ex : Option (Nat × V)} {W : WX} {X : Cx} (hX : XOk G c lv ex W X) (hT : TOk G c lv T) (hexi : c.exi = none) (hds : List ExceptHandler), okH c hs hds = true → noNames hs = true ∧ (∀ h ∈ hs, h.1 ∈ G.exs) ∧ HdsOk X hds (hsL G T hs)
  | [], T, c, ex, W, X, hX, hT, hexi, hds, h => by
    cases hds with
    | nil => exact ⟨rfl, (fun h q => by cases q), HdsOk.nil⟩
    | cons _ _ => cases h
  | (cid, some _, ss) :: hs, T, c, ex, W, X, hX, hT, hexi, hds, h => by cases hds <;> cases h
  | (cid, none, ss) :: hs, T, c, ex, W, X, hX, hT, hexi, hds, h => by
    obtain ⟨x, np, b0, suite, pos', hds', rfl, h⟩ := okH_inv h
    obtain ⟨h1, h⟩ := andB h
    obtain ⟨h2, h⟩ := andB h
    obtain ⟨h3, h4⟩ := andB h
    obtain ⟨m1, m2⟩ := hT.exh (cid, x) (by simpa using h1)
    obtain ⟨g1, g2, _⟩ := glB_ok hX h2
    obtain ⟨k1, k2, k3⟩ := okH_ok hs hX hT hexi hds' h4
    refine ⟨k1, fun q hq => ?_, HdsOk.cons (c := .ref (G.cad cid)) (ts := tsN G T (fun _ => none) ss) ⟨g1, g2, .inl (by rw [hX.mg]; exact m2)⟩ (fun a oe cls d pn hz hf => suite_sound fun y e1 e2 e3 => ?_) k3⟩
    · rcases List.mem_cons.mp hq with e | e
      · rw [e]; exact m1
      · exact k2 q e
    · exact okB_ok ss (hX.suite a _ c.exi none fun j b q => by cases q) (hT.exc y c.exi) (fun _ j q => by
        rw [show c.exi = some j from q] at hexi
        cases hexi) (b0 :: suite) h3
theorem okB_ok : ∀ (ss : List S) {T : Tab} {c : Ck} {ex : Option (Nat × V)} {W : WX} {X : Cx} (hX : XOk G c lv ex W X) (hT : TOk G c lv T) (hE : XEOk G c ex T X) (sts : List Stmt), okB c ss sts = true → PSs X sts (tBB G ex W T ss)
  | [], T, c, ex, W, X, hX, hT, hE, sts, h => by
    cases sts with
    | nil => exact pss_nilS
    | cons _ _ => cases h
  | s :: ss, T, c, ex, W, X, hX, hT, hE, sts, h => by
    cases sts with
    | nil => cases h
    | cons st sts =>
      obtain ⟨h1, h2⟩ := andB h
      exact pss_consS (okS_ok s hX hT hE st h1) (okB_ok ss hX hT hE sts h2)
end
end
end Pd

set_option Elab.async false
set_option linter.all false
set_option maxRecDepth 100000
set_option maxHeartbeats 2000000
/-! PdZ: the head's facts, the law's end. -/
namespace Pd
open PySem PySem.Spec PyProof.Rows L2
/-! ### tables by their rows -/
def All2 {α β : Type} (P : α → β → Prop) : List α → List β → Prop
  | [], _ => True
  | a :: as, b :: bs => P a b ∧ All2 P as bs
  | _ :: _, [] => False
theorem All2.at_ {α β : Type} {P : α → β → Prop} : ∀ {as : List α} {bs : List β}, All2 P as bs → ∀ (j : Nat) a, as[j]? = some a → ∃ b, bs[j]? = some b ∧ P a b
  | [], _, _, _, _, h => by simp at h
  | a :: as, b :: bs, k, 0, x, h => by
    simp at h
    subst h
    exact ⟨b, by simp, k.1⟩
  | a :: as, b :: bs, k, j + 1, x, h => by
    simp at h
    obtain ⟨c, h1, h2⟩ := All2.at_ k.2 j x h
    exact ⟨c, by simpa using h1, h2⟩
  | _ :: _, [], k, _, _, _ => k.elim
def All1 {α : Type} (P : α → Prop) : List α → Prop
  | [] => True
  | a :: as => P a ∧ All1 P as
theorem All1.mem {α : Type} {P : α → Prop} : ∀ {as : List α}, All1 P as → ∀ a ∈ as, P a
  | [], _, _, h => nomatch h
  | a :: as, k, x, h => by
    rcases List.mem_cons.mp h with rfl | h
    · exact k.1
    · exact All1.mem k.2 x h
/-- a global's value -/
def GlOk (G : Gx) (x : Str) (d : D) : Prop := ∃ v u, G.mg x = some u ∧ RelV v u ∧ ∀ Z H, Rep G Z H d v []
theorem TOk.by {G : Gx} {c : Ck} {lv : Nat} {T : Tab} (h1 : All1 (fun p : Nat × Str => Cls G.K (G.cad p.1) ∧ NoAttr G.K (G.cad p.1) p.2) T.flds) (h2 : All2 (GlOk G) c.gls T.gls)
    (h3 : All2 (FdOk G lv) c.fns T.fns) (h4 : All2 (MkOk G lv) c.cls T.cls) (h5 : All1 (ExnC G) c.exn) (h6 : All1 (fun cn : Nat × Str => cn.1 ∈ G.exs ∧ G.mg cn.2 = some (.ref (G.cad cn.1))) c.exh) (h7 : ExAll G T.sub) : TOk G c lv T where
  fld := fun c' f h => h1.mem (c', f) (by simpa using h)
  gls := fun j x hx d hd => by
    obtain ⟨d', e, k⟩ := h2.at_ j x hx
    rw [e] at hd
    cases hd
    exact k
  fns := fun j fi h => h3.at_ j fi h
  cls := fun j cx h => h4.at_ j cx h
  exn := fun cn h => h5.mem cn h
  exh := fun cn h => h6.mem cn h
  exa := h7
/-! ### the script is no written object -/
def noLst (K : PySem.W.Frag) : Bool := K.all fun p => match p.2.cls with
  | .type n => !(n == "list")
  | _ => true
theorem noLst_ok {K : PySem.W.Frag} (h : noLst K = true) {a : Addr} {o : Obj} (e : K.lookup a = some o) (c : o.cls = .type "list") : False := by
  have hm : ∃ p ∈ K, p.2 = o := by
    clear h
    induction K with
    | nil => cases e
    | cons p K ih =>
      rw [List.lookup_cons] at e
      split at e
      · exact ⟨p, List.mem_cons_self, Option.some.inj e⟩
      · obtain ⟨q, hq, e⟩ := ih e
        exact ⟨q, List.mem_cons_of_mem _ hq, e⟩
  obtain ⟨p, hp, rfl⟩ := hm
  have := List.all_eq_true.mp h p hp
  rw [c] at this
  cases this
/-! ### exceptions, properties -/
def excB (K : PySem.W.Frag) (D : Addr) : Bool := decide (PySem.W.findIn K (.ref D) "__getattribute__" = some (some (.builtin "BaseException.__getattribute__"))) && (decide (PySem.W.findIn K (.ref D) "__getattr__" = some none) && (decide (PySem.W.subIn K (.ref D) (.type "BaseException") = some true) &&
  (PySem.W.hasDictIn K D && (decide (PySem.W.findIn K (.ref D) "__class__" = some (some (.builtin "object.__class__"))) && (decide (PySem.W.specialIn K (.builtin "object.__class__") "__get__" = some (some (.builtin "getset_descriptor.__get__"))) && (decide (PySem.W.takesIn K (.builtin "object.__class__") = some true) &&
  decide (PySem.W.mroIn K D (.type "object") = some true)))))))
theorem excB_ok {K : PySem.W.Frag} {D : Addr} (h : excB K D = true) : ExcC K D := by
  obtain ⟨h1, h⟩ := andB h
  obtain ⟨h2, h⟩ := andB h
  obtain ⟨h3, h⟩ := andB h
  obtain ⟨h4, h⟩ := andB h
  obtain ⟨h5, h⟩ := andB h
  obtain ⟨h6, h⟩ := andB h
  obtain ⟨h7, h8⟩ := andB h
  exact ⟨of_decide_eq_true h1, of_decide_eq_true h2, of_decide_eq_true h3, h4, of_decide_eq_true h5, of_decide_eq_true h6, of_decide_eq_true h7, of_decide_eq_true h8⟩
def exB (sub : Nat → Nat → Bool) (exN : List (Nat × Str)) (K : PySem.W.Frag) : Bool := exN.all fun a => excB K (He.ga K a.2) && exN.all fun b => decide (PySem.W.exmOne K (.ref (He.ga K a.2)) (.ref (He.ga K b.2)) = some (sub a.1 b.1)) && decide (PySem.W.kitOne K (.ref (He.ga K a.2)) (.ref (He.ga K b.2)) = some (sub a.1 b.1))
theorem exAll_of {G : Gx} {sub : Nat → Nat → Bool} {exN : List (Nat × Str)} (h : exB sub exN G.K = true) (hc : All1 (fun p : Nat × Str => G.cad p.1 = He.ga G.K p.2) exN) (he : G.exs = exN.map (·.1)) : ExAll G sub := by
  have row : ∀ a ∈ G.exs, ∃ p ∈ exN, p.1 = a := fun a h => by
    rw [he] at h
    obtain ⟨p, hp, e⟩ := List.mem_map.mp h
    exact ⟨p, hp, e⟩
  have at1 : ∀ p ∈ exN, (excB G.K (He.ga G.K p.2) && exN.all fun b => decide (PySem.W.exmOne G.K (.ref (He.ga G.K p.2)) (.ref (He.ga G.K b.2)) = some (sub p.1 b.1)) && decide (PySem.W.kitOne G.K (.ref (He.ga G.K p.2)) (.ref (He.ga G.K b.2)) = some (sub p.1 b.1))) = true := fun p hp => List.all_eq_true.mp h p hp
  have at2 : ∀ p ∈ exN, ∀ b ∈ exN, (decide (PySem.W.exmOne G.K (.ref (He.ga G.K p.2)) (.ref (He.ga G.K b.2)) = some (sub p.1 b.1)) && decide (PySem.W.kitOne G.K (.ref (He.ga G.K p.2)) (.ref (He.ga G.K b.2)) = some (sub p.1 b.1))) = true := fun p hp b hb => List.all_eq_true.mp (andB (at1 p hp)).2 b hb
  refine ⟨fun a ha b hb => ?_, fun a ha b hb => ?_, fun a ha => ?_⟩
  · obtain ⟨p, hp, rfl⟩ := row a ha
    obtain ⟨q, hq, rfl⟩ := row b hb
    rw [hc.mem p hp, hc.mem q hq]
    exact of_decide_eq_true (andB (at2 p hp q hq)).1
  · obtain ⟨p, hp, rfl⟩ := row a ha
    obtain ⟨q, hq, rfl⟩ := row b hb
    rw [hc.mem p hp, hc.mem q hq]
    exact of_decide_eq_true (andB (at2 p hp q hq)).2
  · obtain ⟨p, hp, rfl⟩ := row a ha
    rw [hc.mem p hp]
    exact excB_ok (andB (at1 p hp)).1
/-- the getter of a property -/
def gAd (K : PySem.W.Frag) (p : Str × Option Str) : Addr := match p.2 with
  | some m => (match PySem.W.recIn K (He.ma K (He.ga K p.1) m) "property" with
    | some (.ref g :: _) => g
    | _ => 0)
  | none => 0
def prW (K : PySem.W.Frag) (p : Str × Option Str) : He.FnW := match K.lookup (gAd K p) with
  | some ⟨_, _, .func fd, _⟩ => some (fd.name, fd.qualname, fd.params, fd.body, fd.scope, fd.globals, fd.closure, fd.builtins)
  | _ => none
def prOk (K : PySem.W.Frag) (d : He.DefD) : Bool := (match d.at_.2 with
  | some m => decide (PySem.W.findIn K (.ref (He.ga K d.at_.1)) m = some (some (.ref (He.ma K (He.ga K d.at_.1) m)))) && (decide (PySem.W.specialIn K (.ref (He.ma K (He.ga K d.at_.1) m)) "__get__" = some (some (.builtin "property.__get__"))) && (decide (PySem.W.takesIn K (.ref (He.ma K (He.ga K d.at_.1) m)) = some true) &&
    (match PySem.W.recIn K (He.ma K (He.ga K d.at_.1) m) "property" with
    | some (.ref _ :: _) => true
    | _ => false)))
  | none => false) && (PySem.W.keepIn K (.ref (gAd K d.at_)) && (match K.lookup (gAd K d.at_) with
  | some ⟨_, _, .func fd, _⟩ => PySem.W.codeIn K fd.code d.qual && (He.dflB K fd.defaults [] && He.kwdB K fd.kwdefaults [])
  | _ => false))
theorem prop_of {K : PySem.W.Frag} {d : He.DefD} {m : Str} (hm : d.at_.2 = some m) (c : prOk K d = true) : PropOf K (He.ga K d.at_.1) m (He.ma K (He.ga K d.at_.1) m) (gAd K d.at_) := by
  obtain ⟨c1, _⟩ := andB c
  rw [hm] at c1
  obtain ⟨h1, h⟩ := andB c1
  obtain ⟨h2, h⟩ := andB h
  obtain ⟨h3, h4⟩ := andB h
  refine ⟨of_decide_eq_true h1, of_decide_eq_true h2, of_decide_eq_true h3, ?_⟩
  unfold gAd
  rw [hm]
  dsimp only
  split at h4
  · rename_i g r e
    rw [e]
    exact ⟨r, rfl⟩
  · cases h4
theorem prop_funD {K : PySem.W.Frag} {d : He.DefD} (e : prW K d.at_ = d.val) (c : prOk K d = true) : ∃ fd, FunD K d.name d.qual d.params d.body d.scope [] [] (gAd K d.at_) fd := by
  obtain ⟨_, c1⟩ := andB c
  obtain ⟨kp, c2⟩ := andB c1
  unfold prW at e
  cases q : K.lookup (gAd K d.at_) with
  | none => rw [q] at c2; cases c2
  | some o =>
    obtain ⟨oc, od, dt, osl⟩ := o
    rw [q] at c2 e
    cases dt with
    | func fd =>
      obtain ⟨n1, n2, n3, n4, n5, n6, n7, n8, n9, n10, n11, n12, n13, n14, n15⟩ := fd
      have e2 : (some (n1, n2, n3, n4, n5, n6, n7, n15) : He.FnW) = some (d.name, d.qual, d.params, .stmts d.body, d.scope, mainGlobals, [], builtinsNs) := e
      simp only [Option.some.injEq, Prod.mk.injEq] at e2
      obtain ⟨h1, h2, h3, h4, h5, h6, h7, h8⟩ := e2
      subst h1 h2 h3 h4 h5 h6 h7 h8
      have c3 : (PySem.W.codeIn K n13 d.qual && (He.dflB K n8 [] && He.kwdB K n9 [])) = true := c2
      obtain ⟨k1, k2⟩ := andB c3
      obtain ⟨k3, k4⟩ := andB k2
      exact ⟨_, ⟨oc, od, n8, n9, n10, n11, n12, n13, n14, osl, rfl, q, k1, He.dflB_ok k3, He.kwdB_ok k4⟩, kp⟩
    | _ => cases c2
/-- what the head tells besides -/
structure Extra (sub : Nat → Nat → Bool) (exN : List (Nat × Str)) (prN : List He.DefD) (K : PySem.W.Frag) : Prop where
  ls : noLst K = true
  ex : exB sub exN K = true
  pr : (prN.all fun d => prOk K d) = true
  pw : prN.map (fun d => prW K d.at_) = prN.map He.DefD.val
theorem Extra.prop {sub : Nat → Nat → Bool} {exN : List (Nat × Str)} {prN : List He.DefD} {K : PySem.W.Frag} (y : Extra sub exN prN K) (i : Nat) {d : He.DefD} (h : prN[i]? = some d) : prOk K d = true ∧ prW K d.at_ = d.val := by
  refine ⟨List.all_eq_true.mp y.pr d (List.mem_of_getElem? h), ?_⟩
  have e := congrArg (fun l : List He.FnW => l[i]?) y.pw
  simp only [List.getElem?_map, h, Option.map_some] at e
  exact Option.some.inj e
/-! ### the hook -/
def obK (sub : Nat → Nat → Bool) (exN : List (Nat × Str)) (prN : List He.DefD) (K : PySem.W.Frag) : Bool × List He.FnW := (noLst K && (exB sub exN K && prN.all fun d => prOk K d), prN.map fun d => prW K d.at_)
def hookL (n : Nat) (fa : List He.Fa) (fn : List He.DefD) (sub : Nat → Nat → Bool) (exN : List (Nat × Str)) (prN : List He.DefD) : PySem.W.Hook where
  α := (Bool × List He.FnW) × He.AlD
  obs := fun s => (obK sub exN prN (He.frG s.heap.get? (He.asD s.heap.get? n)), He.obsDG n fa fn s.heap.get?)
  val := fun _ => ((true, prN.map He.DefD.val), He.valD fn)
  says := fun _ h => ∃ K : PySem.W.Frag, K.In h ∧ Extra sub exN prN K ∧ He.SaysD fa fn K
  of := fun _ _ e => ⟨_, He.frG_in, by
    have e1 := congrArg (fun z : (Bool × List He.FnW) × He.AlD => z.1.1) e
    have e2 := congrArg (fun z : (Bool × List He.FnW) × He.AlD => z.1.2) e
    obtain ⟨a1, a2⟩ := andB e1
    obtain ⟨a2, a3⟩ := andB a2
    exact ⟨a1, a2, a3, e2⟩, congrArg Prod.snd e⟩
  keeps := fun _ _ _ ⟨K, hK, c⟩ k => ⟨K, PySem.W.Frag.In.keeps hK k, c⟩
def obL (n : Nat) (fa : List He.Fa) (fn : List He.DefD) (sub : Nat → Nat → Bool) (exN : List (Nat × Str)) (prN : List He.DefD) (g : Addr → Option Obj) : (Bool × List He.FnW) × He.AlD := (obK sub exN prN (He.frG g (He.asD g n)), He.obsDG n fa fn g)
theorem obL_eq {n : Nat} {fa : List He.Fa} {fn : List He.DefD} {sub : Nat → Nat → Bool} {exN : List (Nat × Str)} {prN : List He.DefD} {g : Addr → Option Obj} {s : Shared} (h : ∀ a, g a = s.heap.get? a) : obL n fa fn sub exN prN g = (hookL n fa fn sub exN prN).obs s := by
  have e : g = s.heap.get? := funext h
  rw [e] <;> rfl
/-- no exception of the law's own -/
theorem toCX0 {P : Program} {w : World} {K : PySem.W.Frag} {mg : Str → Option Value} {base : Heap} {k : Nat} {f : Addr} {fd : FuncData} {ps : List Str} {sp : Sp} (F : FnOk P w K mg base (L2.CX P w) k f fd ps sp) :
    FnOk P w K mg base CX0 k f fd ps (fun vs H Q _ => sp vs H Q fun _ _ _ => False) :=
  ⟨fun vs H Q E h => F.len vs H Q _ h, fun A outer s H args us vs Q E hr he hb hv h => codeAny_mono (F.run A outer s H args us vs Q _ hr he hb hv h) fun r s' q => by
    cases r with
    | ok v => cases v <;> exact q
    | error e =>
      obtain ⟨_, _, _, _, _, _, _, _, _, _, _, _, q⟩ := q
      exact q.elim⟩
def intsD (ns : List Int) : List D := ns.map .int
theorem reps_intsD {G : Gx} {Z H : Hp} : ∀ ns : List Int, Reps G Z H (intsD ns) (ns.map V.int) []
  | [] => ⟨rfl, rfl⟩
  | n :: ns => ⟨.int n, ns.map V.int, [], [], rfl, ⟨rfl, rfl⟩, reps_intsD ns, rfl⟩
/-- the law's own promise -/
theorem law_sp {G : Gx} {f : Fd} (hmu : f.mu = []) (hK : noLst G.K = true) {H : Hp} {a : Addr} {ns : List Int} (hF : ∃ ms, f.F [.lst (intsD ns)] = .ok (.bl true) ms) (hS : SqL G.K H a (ns.map V.int)) {Q : VK} (hQ : ∀ H', Q (.bl true) H') :
    spD G f [.ref a] H Q fun _ _ _ => False := by
  have hR : Rd H a (.lst (ns.map V.int)) := by
    rcases hS with h | ⟨o, its, n, e, c, _⟩
    · exact h
    · exact (noLst_ok hK e c).elim
  let Z : Hp := fun b => if b = a then H a else none
  have hZ : Rd Z a (.lst (ns.map V.int)) := by
    have e : Z a = H a := if_pos rfl
    unfold Rd
    rw [e]
    exact hR
  obtain ⟨ms, hF⟩ := hF
  refine ⟨Z, [.lst (intsD ns)], F0, ⟨rfl, fun i d h => ?_, fun _ _ => rfl, fun _ => List.nodup_nil, fun _ _ _ h => (nomatch h), fun b o e => ?_, fun _ _ q => nomatch q⟩, fun _ _ h => (nomatch h), ?_⟩
  · cases i with
    | zero =>
      simp at h
      subst h
      exact ⟨.ref a, rfl, a, _, rfl, hZ, reps_intsD ns, rfl⟩
    | succ i => simp at h
  · have : (if b = a then H a else none) = some o := e
    split at this
    · rename_i q
      subst q
      exact .inl this
    · cases this
  · rw [hF, hmu]
    intro v Z' H' fr _ _ r _
    rw [r.1]
    exact hQ H'
/-- the law's promise, the same over every base -/
def spLaw (K : PySem.W.Frag) : Sp := fun vs H Q _ => ∃ (a : Addr) (ns : List Int), vs = [.ref a] ∧ SqL K H a (ns.map V.int) ∧ ns.length ≤ 63 ∧ ∀ H', Q (.bl true) H'
theorem law_end {G : Gx} {f : Fd} (hmu : f.mu = []) (hK : noLst G.K = true) (hF : ∀ ns : List Int, ns.length ≤ 63 → ∃ ms, f.F [.lst (intsD ns)] = .ok (.bl true) ms) {k : Nat} {fa : Addr} {fd : FuncData} {ps : List Str}
    (o : FnOk G.P G.w G.K G.mg G.base (L2.CX G.P G.w) k fa fd ps (spD G f)) : FnOk G.P G.w G.K G.mg G.base CX0 k fa fd ps (spLaw G.K) :=
  (toCX0 o).imp fun vs H Q E ⟨a, ns, e, hS, hl, hQ⟩ => by
    subst e
    exact law_sp hmu hK (hF ns hl) hS hQ
/-- a def's parameters, all written -/
theorem fdok_fn {G : Gx} {lv k : Nat} {x : Str} {a : Addr} {fd : FuncData} {ps : List Str} {f : Fd} (h1 : G.mg x = some (.ref a)) (h2 : PySem.W.keepIn G.K (.ref a) = true) (h3 : FnOk G.P G.w G.K G.mg G.base (L2.CX G.P G.w) k a fd ps (spD G f)) (h4 : Binds G.K fd ps []) (h5 : k + 1 ≤ lv) : FdOk G lv (.fn x) f := ⟨a, fd, ps, k, h1, h2, h3, h4, h5⟩
theorem fa_mem {fa : List He.Fa} {fn : List He.DefD} {K : PySem.W.Frag} (c : He.SaysD fa fn K) {f : He.Fa} (h : f ∈ fa) : f.ok K = true := by
  obtain ⟨i, hi, rfl⟩ := List.getElem_of_mem h
  exact c.fact i (List.getElem?_eq_getElem hi)
theorem blt_of {fa : List He.Fa} {fn : List He.DefD} {K : PySem.W.Frag} {h : Heap} {mg : Str → Option Value} (X : K.In h) (G : h.Ns mainGlobals mg) (c : He.SaysD (bnames.map He.Fa.free ++ fa) fn K) : ∀ x ∈ bnames, mg x = none := fun x hx =>
  He.free_ok X G (fa_mem c (List.mem_append_left _ (List.mem_map.mpr ⟨x, hx, rfl⟩)))
theorem fact_of {fa : List He.Fa} {fn : List He.DefD} {K : PySem.W.Frag} (c : He.SaysD (bnames.map He.Fa.free ++ fa) fn K) (i : Nat) {f : He.Fa} (h : fa[i]? = some f := by rfl) : f.ok K = true :=
  fa_mem c (List.mem_append_right _ (List.mem_of_getElem? h))
end Pd
namespace Pd
open PySem PySem.Spec PyProof.Rows L2
/-- the def at a keeps its row's promise -/
def FnIs (G : Gx) (k : Nat) (a : Addr) (ps : List Str) (f : Fd) : Prop := ∃ fd, (∃ oc od osl, G.K.lookup a = some ⟨oc, od, .func fd, osl⟩) ∧ PySem.W.keepIn G.K (.ref a) = true ∧ Binds G.K fd ps [] ∧ FnOk G.P G.w G.K G.mg G.base (L2.CX G.P G.w) k a fd ps (spD G f)
theorem FnIs.of {G : Gx} {k : Nat} {a : Addr} {ps : List Str} {f : Fd} {x qual : Str} {params : Arguments} {body : List Stmt} {scope : Scope} {dvs : List V} {kws : List (Str × V)} {fd : FuncData} (F : FunD G.K x qual params body scope dvs kws a fd)
    (b : Binds G.K fd ps []) (o : FnOk G.P G.w G.K G.mg G.base (L2.CX G.P G.w) k a fd ps (spD G f)) : FnIs G k a ps f := by
  obtain ⟨oc, od, dV, kV, doc, pm, an, cdv, ct, osl, rfl, lk, _⟩ := F.ex
  exact ⟨_, ⟨oc, od, osl, lk⟩, F.kp, b, o⟩
theorem FnIs.at_ {G : Gx} {k : Nat} {a : Addr} {ps : List Str} {f : Fd} {x qual : Str} {params : Arguments} {body : List Stmt} {scope : Scope} {dvs : List V} {kws : List (Str × V)} {fd : FuncData} (h : FnIs G k a ps f) (F : FunD G.K x qual params body scope dvs kws a fd) :
    FnOk G.P G.w G.K G.mg G.base (L2.CX G.P G.w) k a fd ps (spD G f) := by
  obtain ⟨oc, od, dV, kV, doc, pm, an, cdv, ct, osl, rfl, lk, _⟩ := F.ex
  obtain ⟨fd', ⟨oc', od', osl', lk'⟩, _, _, o⟩ := h
  rw [lk] at lk'
  cases lk'
  exact o
theorem FnIs.fn {G : Gx} {k lv : Nat} {a : Addr} {ps : List Str} {f : Fd} {x : Str} (h : FnIs G k a ps f) (h1 : G.mg x = some (.ref a)) (h5 : k + 1 ≤ lv) : FdOk G lv (.fn x) f := by
  obtain ⟨fd, _, kp, b, o⟩ := h
  exact ⟨a, fd, ps, k, h1, kp, o, b, h5⟩
theorem FnIs.meth {G : Gx} {k lv c : Nat} {a : Addr} {ps : List Str} {f : Fd} {m : Str} (h : FnIs G k a ps f) (h1 : Cls G.K (G.cad c)) (h2 : Meth G.K (G.cad c) m a) (h5 : k + 1 ≤ lv) : FdOk G lv (.meth c m) f := by
  obtain ⟨fd, _, kp, b, o⟩ := h
  exact ⟨a, fd, ps, k, ⟨h1, h2⟩, o, b, h5⟩
theorem FnIs.prop {G : Gx} {k lv c : Nat} {p a : Addr} {ps : List Str} {f : Fd} {m : Str} (h : FnIs G k a ps f) (h1 : Cls G.K (G.cad c)) (h2 : PropOf G.K (G.cad c) m p a) (h5 : k + 1 ≤ lv) : FdOk G lv (.prop c m) f := by
  obtain ⟨fd, _, kp, b, o⟩ := h
  exact ⟨p, a, fd, ps, k, ⟨h1, h2⟩, o, b, h5⟩
theorem FnIs.make {G : Gx} {k lv c : Nat} {a : Addr} {ps : List Str} {f : Fd} {x : Str} (h : FnIs G k a ps f) (h1 : G.mg x = some (.ref (G.cad c))) (h2 : Mk G.K (G.cad c) a) (h5 : k + 1 ≤ lv) : MkOk G lv (c, x) (c, f) := by
  obtain ⟨fd, _, kp, b, o⟩ := h
  exact ⟨rfl, a, fd, ps, k, h1, h2, o, b, h5⟩
theorem gl_int {G : Gx} {x : Str} {i : Int} (h : ∃ t, G.mg x = some (.int i t)) : GlOk G x (.int i) := by
  obtain ⟨t, h⟩ := h
  exact ⟨.int i, _, h, ⟨t, rfl⟩, fun _ _ => ⟨rfl, rfl⟩⟩
theorem gl_str {G : Gx} {x z : Str} (h : ∃ t, G.mg x = some (.str z t)) : GlOk G x (.str z) := by
  obtain ⟨t, h⟩ := h
  exact ⟨.str z, _, h, ⟨t, rfl⟩, fun _ _ => ⟨rfl, rfl⟩⟩
theorem exn_of {G : Gx} {c : Nat} {x : Str} (h0 : c ∈ G.exs) (h1 : G.mg x = some (.ref (G.cad c))) (h2 : PySem.W.excIn G.K (G.cad c) He.veBase "ValueError.__new__" = true ∧ PySem.W.keepIn G.K (.ref (G.cad c)) = true ∧ PySem.W.subIn G.K (.ref (G.cad c)) (.type "BaseException") = some true ∧ PySem.W.typeIn G.K (.ref (G.cad c)) = some (.type "type")) : ExnC G (c, x) :=
  ⟨h0, _, _, _, _, PySem.F.excBase_ValueError, h2.1, h1, h2.2.1, h2.2.2.1, h2.2.2.2⟩
end Pd

set_option Elab.async false
set_option linter.all false
set_option maxRecDepth 100000
/-! PdV: rules to run the evaluator over open values. -/
namespace Pd
open PySem
/-! ### still, frozen -/
theorem stills_all : ∀ ds : List D, stills ds = ds.all still
  | [] => rfl
  | d :: ds => by rw [stills, List.all_cons, stills_all ds]
@[simp] theorem stills_nil : stills [] = true := rfl
@[simp] theorem stills_cons {d : D} {ds : List D} : stills (d :: ds) = (still d && stills ds) := by rw [stills]
@[simp] theorem stills_append {a b : List D} : stills (a ++ b) = (stills a && stills b) := by simp [stills_all]
theorem stills_map {α : Type} {f : α → D} (h : ∀ x, still (f x) = true) (xs : List α) : stills (xs.map f) = true := by simp [stills_all, h]
theorem stills_mapM {α : Type} {f : α → D} {xs : List α} (h : ∀ x ∈ xs, still (f x) = true) : stills (xs.map f) = true := by simpa [stills_all] using h
@[simp] theorem still_int {i : Int} : still (.int i) = true := rfl
@[simp] theorem still_str {i : Str} : still (.str i) = true := rfl
@[simp] theorem still_bl {i : Bool} : still (.bl i) = true := rfl
@[simp] theorem still_non : still .non = true := rfl
@[simp] theorem still_tup {ds : List D} : still (.tup ds) = stills ds := by rw [still]
@[simp] theorem still_lst {ds : List D} : still (.lst ds) = stills ds := by rw [still]
@[simp] theorem still_mls {ds : List D} : still (.mls ds) = false := by rw [still]
@[simp] theorem still_ins {c : Nat} {ns : List Str} {ds : List D} : still (.ins c ns ds) = stills ds := by rw [still]
@[simp] theorem still_mns {c : Nat} {ns : List Str} {ds : List D} : still (.mns c ns ds) = false := by rw [still]
mutual
theorem frz_still : ∀ {d : D}, still d = true → frz d = d
  | .non, _ => rfl | .bl _, _ => rfl | .int _, _ => rfl | .str _, _ => rfl
  | .tup ds, h => by rw [frz, frzs_still (ds := ds) (by simpa using h)]
  | .lst ds, h => by rw [frz, frzs_still (ds := ds) (by simpa using h)]
  | .ins c ns ds, h => by rw [frz, frzs_still (ds := ds) (by simpa using h)]
  | .dct t ks vs, h => by
    rw [still, Bool.and_eq_true] at h
    rw [frz, frzs_still h.1, frzs_still h.2]
  | .mls _, h => by simp at h
  | .mns _ _ _, h => by simp at h
  | .mdc _ _ _, h => by rw [still] at h; cases h
theorem frzs_still : ∀ {ds : List D}, stills ds = true → frzs ds = ds
  | [], _ => rfl
  | d :: ds, h => by
    simp at h
    rw [frzs, frz_still h.1, frzs_still h.2]
end
theorem frz_mls {ds : List D} (h : stills ds = true) : frz (.mls ds) = .lst ds := by rw [frz, frzs_still h]
theorem frz_mns {c : Nat} {ns : List Str} {ds : List D} (h : stills ds = true) : frz (.mns c ns ds) = .ins c ns ds := by rw [frz, frzs_still h]
theorem frzs_cons {d e : D} {ds es : List D} (h : frz d = e) (k : frzs ds = es) : frzs (d :: ds) = e :: es := by rw [frzs, h, k]
theorem frz_tup {ds es : List D} (h : frzs ds = es) : frz (.tup ds) = .tup es := by rw [frz, h]
theorem flip_or {a b : Bool} (h : (a || b) = true) : (!b && !a) = false := by cases a <;> cases b <;> first | rfl | cases h
/-! ### expressions -/
section
variable {T : Tab} {ρ ρ1 ρ2 : Env} {e a b c : E} {es : List E} {d d1 d2 : D} {ds : List D} {k : D → Bool}
theorem ev_var {i : Nat} (h : ρ[i]? = some (some d)) : evE T (.var i) ρ = .ok d ρ := by rw [evE, h]
theorem ev_frz {i : Nat} (h : ρ[i]? = some (some d)) (hz : frz d = d1) : evE T (.frz i) ρ = .ok d1 (ρ.set i (some d1)) := by subst hz; rw [evE, h]
theorem ev_mov {i : Nat} (h : ρ[i]? = some (some d)) : evE T (.mov i) ρ = .ok d (ρ.set i none) := by rw [evE, h]
theorem ev_non : evE T .non ρ = .ok .non ρ := by rw [evE]
theorem ev_bl {x : Bool} : evE T (.bl x) ρ = .ok (.bl x) ρ := by rw [evE]
theorem ev_int {x : Int} : evE T (.int x) ρ = .ok (.int x) ρ := by rw [evE]
theorem ev_str {x : Str} : evE T (.str x) ρ = .ok (.str x) ρ := by rw [evE]
theorem ev_glob {j : Nat} (h : T.gls[j]? = some d) : evE T (.glob j) ρ = .ok d ρ := by rw [evE, h]; rfl
theorem ev_fldI {f : Str} {cc : Nat} {ns : List Str} (he : evE T a ρ = .ok (.ins cc ns ds) ρ1) (hf : T.flds.contains (cc, f) = true) (hl : lookF f ns ds = some d) : evE T (.fld a f) ρ = .ok d ρ1 := by
  rw [evE, he]; show (if T.flds.contains (cc, f) then R.of (lookF f ns ds) ρ1 else .stk) = _; rw [hf, hl]; rfl
theorem ev_fldM {f : Str} {cc : Nat} {ns : List Str} (he : evE T a ρ = .ok (.mns cc ns ds) ρ1) (hf : T.flds.contains (cc, f) = true) (hl : lookF f ns ds = some d) : evE T (.fld a f) ρ = .ok d ρ1 := by
  rw [evE, he]; show (if T.flds.contains (cc, f) then R.of (lookF f ns ds) ρ1 else .stk) = _; rw [hf, hl]; rfl
theorem ev_ix (ha : evE T a ρ = .ok d1 ρ1) (hb : evE T b ρ1 = .ok d2 ρ2) (hs : (pur b || still d1) = true) (hi : ixOf d1 d2 = some d) : evE T (.ix a b) ρ = .ok d ρ2 := by
  replace hs := flip_or hs
  rw [evE, ha]; show (if (!still d1 && !pur b) = true then R.stk else _) = _; rw [hs, hb]; show R.of (ixOf d1 d2) ρ2 = _; rw [hi]; rfl
theorem ev_fz (he : evE T a ρ = .ok d ρ1) (hp : (isPlace a && !still d) = false) (hz : frz d = d1) : evE T (.fz a) ρ = .ok d1 ρ1 := by
  rw [evE, he]; show (if (isPlace a && !still d) = true then R.stk else R.ok (frz d) ρ1) = _; rw [hp, hz]; rfl
theorem el_nil : evEs T k [] ρ = .ok [] ρ := by rw [evEs]
theorem el_cons (he : evE T e ρ = .ok d ρ1) (hk : k d = true) (hs : (purs es || still d) = true) (h : evEs T anyD es ρ1 = .ok ds ρ2) : evEs T k (e :: es) ρ = .ok (d :: ds) ρ2 := by
  replace hs := flip_or hs
  rw [evEs, he]; show (if (!k d || (!still d && !purs es)) = true then R.stk else _) = _; rw [hs, hk, h]; rfl
theorem ev_op {o : Op} (h : evEs T (recvTy o) es ρ = .ok ds ρ1) (hd : opD o ds = some d) : evE T (.op o es) ρ = .ok d ρ1 := by rw [evE, h]; show R.of (opD o ds) ρ1 = _; rw [hd]; rfl
theorem ev_chain {o o' : Op} {x y z : D} {p q : Bool} (h : evEs T anyD es ρ = .ok [x, y, z] ρ1) (h1 : opD o [x, y] = some (.bl p)) (h2 : opD o' [y, z] = some (.bl q)) : evE T (.chain o o' es) ρ = .ok (.bl (p && q)) ρ1 := by
  rw [evE, h]
  show (match opD o [x, y], opD o' [y, z] with | some (D.bl p), some (D.bl q) => R.ok (D.bl (p && q)) ρ1 | _, _ => R.stk) = _
  rw [h1, h2]
/-- truth values, the second one asked only where it counts -/
theorem ev_and {p q : Bool} (ha : evE T a ρ = .ok (.bl p) ρ1) (hb : p = true → evE T b ρ1 = .ok (.bl q) ρ1) : evE T (.and a b) ρ = .ok (.bl (p && q)) ρ1 := by
  rw [evE, ha]
  cases p with
  | false => rfl
  | true => show (evE T b ρ1).bind _ = _; rw [hb rfl]; show (if (isPlace b && !true) = true then R.stk else _) = _; simp
theorem ev_or {p q : Bool} (ha : evE T a ρ = .ok (.bl p) ρ1) (hb : p = false → evE T b ρ1 = .ok (.bl q) ρ1) : evE T (.or a b) ρ = .ok (.bl (p || q)) ρ1 := by
  rw [evE, ha]
  cases p with
  | true => rfl
  | false => show (evE T b ρ1).bind _ = _; rw [hb rfl]; show (if (isPlace b && !true) = true then R.stk else _) = _; simp
theorem ev_not {p : Bool} (ha : evE T a ρ = .ok d ρ1) (ht : truth d = some p) : evE T (.not a) ρ = .ok (.bl (!p)) ρ1 := by rw [evE, ha]; show R.of ((truth d).map fun b => D.bl (!b)) ρ1 = _; rw [ht]; rfl
theorem ev_ite {p : Bool} (hc : evE T c ρ = .ok d ρ1) (ht : truth d = some p) (h1 : p = true → evE T a ρ1 = .ok d1 ρ2 ∧ (isPlace a && !still d1) = false) (h2 : p = false → evE T b ρ1 = .ok d2 ρ2 ∧ (isPlace b && !still d2) = false) : evE T (.ite c a b) ρ = .ok (if p = true then d1 else d2) ρ2 := by
  rw [evE, hc]
  show (match truth d with | some true => _ | some false => _ | none => _) = _
  rw [ht]
  cases p with
  | true => show (evE T a ρ1).bind _ = _; rw [(h1 rfl).1]; show (if (isPlace a && !still d1) = true then R.stk else _) = _; rw [(h1 rfl).2]; rfl
  | false => show (evE T b ρ1).bind _ = _; rw [(h2 rfl).1]; show (if (isPlace b && !still d2) = true then R.stk else _) = _; rw [(h2 rfl).2]; rfl
theorem ec_nil : evCs T [] ρ = .ok [] ρ := by rw [evCs]
theorem ec_cons (he : evE T e ρ = .ok d ρ1) (hp : (isPlace e && !still d) = false) (h : evCs T es ρ1 = .ok ds ρ2) : evCs T (e :: es) ρ = .ok (d :: ds) ρ2 := by
  rw [evCs, he]; show (if (isPlace e && !still d) = true then R.stk else _) = _; rw [hp, h]; rfl
theorem ev_tup (h : evCs T es ρ = .ok ds ρ1) (hl : lineOk ds = true) : evE T (.tup es) ρ = .ok (.tup ds) ρ1 := by rw [evE, h]; show (if lineOk ds = true then _ else _) = _; rw [hl]; rfl
theorem ev_lst (h : evCs T es ρ = .ok ds ρ1) (hl : lineOk ds = true) : evE T (.lst es) ρ = .ok (.mls ds) ρ1 := by rw [evE, h]; show (if lineOk ds = true then _ else _) = _; rw [hl]; rfl
theorem ea_nil : evAs T k [] ρ = .ok [] ρ := by rw [evAs]
theorem ea_cons (hb : isBor e = false) (he : evE T e ρ = .ok d ρ1) (hz : frz d = d1) (hp : (isPlace e && !still d) = false) (hk : k d1 = true) (h : evAs T anyD es ρ1 = .ok ds ρ2) : evAs T k (e :: es) ρ = .ok (d1 :: ds) ρ2 := by
  subst hz
  have e1 : evAs T k (e :: es) ρ = (evE T e ρ).bind fun d ρ1 => if ((isPlace e && !still d) || !k (Pd.frz d)) = true then .stk else (evAs T anyD es ρ1).bind fun ds ρ2 => .ok (Pd.frz d :: ds) ρ2 := by
    cases e <;> first | (rw [evAs]; done) | (rw [evAs]; intro _ q; cases q) | (cases hb; done)
  rw [e1, he]
  show (if ((isPlace e && !still d) || !k (Pd.frz d)) = true then R.stk else _) = _
  rw [hp, hk, h]; rfl
theorem ev_call {ck : CK} {j : Nat} {f : Fd} {ms : List D} (hf : T.fns[j]? = some f) (hm : fmut f = true) (hb : hasBor es = false) (ha : evAs T (recv1 ck) es ρ = .ok ds ρ1) (hr : recvOk ck ds = true) (hF : f.F ds = .ok d ms) : evE T (.call ck j es) ρ = .ok d ρ1 := by
  rw [evE, hf]
  show (if (!fmut f || (hasBor es && !purs es)) = true then R.stk else _) = _
  rw [hm, hb]
  show (evAs T (recv1 ck) es ρ).bind _ = _
  rw [ha]
  show (if (!recvOk ck ds) = true then R.stk else _) = _
  rw [hr]
  show (match f.F ds with | .ok d _ => _ | .exn x => _ | .stk => _) = _
  rw [hF]
  rfl
theorem ev_callX {ck : CK} {j : Nat} {f : Fd} {x : Exn} (hf : T.fns[j]? = some f) (hm : fmut f = true) (hb : hasBor es = false) (ha : evAs T (recv1 ck) es ρ = .ok ds ρ1) (hr : recvOk ck ds = true) (hF : f.F ds = .exn x) (hc : ∀ c m, ck ≠ .prop c m) : evE T (.call ck j es) ρ = .exn x ρ1 := by
  rw [evE, hf]
  show (if (!fmut f || (hasBor es && !purs es)) = true then R.stk else _) = _
  rw [hm, hb]
  show (evAs T (recv1 ck) es ρ).bind _ = _
  rw [ha]
  show (if (!recvOk ck ds) = true then R.stk else _) = _
  rw [hr]
  show (match f.F ds with | .ok d _ => _ | .exn x => _ | .stk => _) = _
  rw [hF]
  cases ck with
  | prop c m => exact (hc c m rfl).elim
  | _ => rfl
theorem ea_bor (he : evE T a ρ = .ok d ρ1) (hz : frz d = d1) (hk : k d1 = true) (h : evAs T anyD es ρ1 = .ok ds ρ2) : evAs T k (.bor a :: es) ρ = .ok (d1 :: ds) ρ2 := by
  subst hz
  have e1 : evAs T k (.bor a :: es) ρ = (evE T a ρ).bind fun d ρ1 => if (!k (Pd.frz d)) = true then .stk else (evAs T anyD es ρ1).bind fun ds ρ2 => .ok (Pd.frz d :: ds) ρ2 := by rw [evAs]
  rw [e1, he]
  show (if (!k (Pd.frz d)) = true then R.stk else _) = _
  rw [hk, h]; rfl
theorem ev_callB {ck : CK} {j : Nat} {f : Fd} {ms : List D} (hf : T.fns[j]? = some f) (hm : fmut f = true) (hb : hasBor es = true) (hp : purs es = true) (ha : evAs T (recv1 ck) es ρ = .ok ds ρ1) (hr : recvOk ck ds = true) (hF : f.F ds = .ok d ms) (hd : flat d = true) : evE T (.call ck j es) ρ = .ok d ρ1 := by
  rw [evE, hf]
  show (if (!fmut f || (hasBor es && !purs es)) = true then R.stk else _) = _
  rw [hm, hb, hp]
  show (evAs T (recv1 ck) es ρ).bind _ = _
  rw [ha]
  show (if (!recvOk ck ds) = true then R.stk else _) = _
  rw [hr]
  show (match f.F ds with | .ok d _ => _ | .exn x => _ | .stk => _) = _
  rw [hF]
  show (if (true && !flat d) = true then R.stk else _) = _
  rw [hd]
  rfl
theorem ev_make {j cc : Nat} {f : Fd} (hf : T.cls[j]? = some (cc, f)) (hm : f.mu = [0]) (hb : hasBor es = false) (ha : evAs T anyD es ρ = .ok ds ρ1) (hF : f.F (.mns cc [] [] :: ds) = .ok .non [d]) : evE T (.make j es) ρ = .ok d ρ1 := by
  rw [evE, hf]
  show (if f.mu = [0] then (if hasBor es = true then R.stk else _) else R.stk) = _
  rw [if_pos hm, hb]
  show (evAs T anyD es ρ).bind _ = _
  rw [ha]
  show (match f.F (.mns cc [] [] :: ds) with | .ok .non [d] => _ | .ok _ _ => _ | .exn x => _ | .stk => _) = _
  rw [hF]
theorem ev_makeX {j cc : Nat} {f : Fd} {x : Exn} (hf : T.cls[j]? = some (cc, f)) (hm : f.mu = [0]) (hb : hasBor es = false) (ha : evAs T anyD es ρ = .ok ds ρ1) (hF : f.F (.mns cc [] [] :: ds) = .exn x) : evE T (.make j es) ρ = .exn x ρ1 := by
  rw [evE, hf]
  show (if f.mu = [0] then (if hasBor es = true then R.stk else _) else R.stk) = _
  rw [if_pos hm, hb]
  show (evAs T anyD es ρ).bind _ = _
  rw [ha]
  show (match f.F (.mns cc [] [] :: ds) with | .ok .non [d] => _ | .ok _ _ => _ | .exn x => _ | .stk => _) = _
  rw [hF]
end
end Pd

set_option Elab.async false
set_option linter.all false
set_option maxRecDepth 100000
/-! PdW: rules for statements. -/
namespace Pd
open PySem
def Wp (T : Tab) (ss : List S) (ρ : Env) (Q : RS → Prop) : Prop := Q (evB T ss ρ)
/-- what a def hands back -/
def Ret (d : D) : RS → Prop
  | .rt d' _ => d' = d
  | .nx _ => D.non = d
  | _ => False
def RetM (d m : D) (j : Nat) : RS → Prop
  | .rt d' ρ => d' = d ∧ ρ[j]? = some (some m)
  | .nx ρ => D.non = d ∧ ρ[j]? = some (some m)
  | _ => False
def Exc (x : Exn) : RS → Prop
  | .ex y _ => y = x
  | _ => False
/-- behind a loop's turn -/
def Lp (N B : Env → Prop) (Q : RS → Prop) : RS → Prop
  | .nx ρ => N ρ
  | .ct ρ => N ρ
  | .bk ρ => B ρ
  | .rt d ρ => Q (.rt d ρ)
  | .ex x ρ => Q (.ex x ρ)
  | .stk => False
section
variable {T : Tab} {ρ ρ1 ρ2 : Env} {e a b c : E} {es : List E} {d d1 d2 : D} {ds : List D} {ss : List S} {Q : RS → Prop}
theorem F_ok {np n : Nat} {body : List S} {ρ0 : Env} (hl : ds.length = np) (he : ds.map some ++ List.replicate (n - np) none = ρ0) (h : Wp T body ρ0 (Ret d)) : runF T np n [] body ds = .ok d [] := by
  unfold runF
  rw [if_pos hl, he]
  unfold Wp at h
  cases q : evB T body ρ0 <;> rw [q] at h <;> first | (cases h; rfl) | exact h.elim
theorem F_exn {np n : Nat} {body : List S} {ρ0 : Env} {mu : List Nat} {x : Exn} (hl : ds.length = np) (he : ds.map some ++ List.replicate (n - np) none = ρ0) (h : Wp T body ρ0 (Exc x)) : runF T np n mu body ds = .exn x := by
  unfold runF
  rw [if_pos hl, he]
  unfold Wp at h
  cases q : evB T body ρ0 <;> rw [q] at h <;> first | (cases h; rfl) | exact h.elim
theorem F_okM {np n j : Nat} {body : List S} {ρ0 : Env} {m : D} (hl : ds.length = np) (he : ds.map some ++ List.replicate (n - np) none = ρ0) (h : Wp T body ρ0 (RetM d m j)) : runF T np n [j] body ds = .ok d [m] := by
  unfold runF
  rw [if_pos hl, he]
  unfold Wp at h
  cases q : evB T body ρ0 <;> rw [q] at h <;> first | exact h.elim | (obtain ⟨rfl, h⟩ := h; simp [h])
theorem Wp.imp {Q' : RS → Prop} (h : Wp T ss ρ Q) (k : ∀ r, Q r → Q' r) : Wp T ss ρ Q' := k _ h
/-! ### a block's statements in turn -/
theorem evB_append : ∀ (x ss : List S) (ρ : Env), evB T (x ++ ss) ρ = (match evB T x ρ with | .nx ρ' => evB T ss ρ' | r => r)
  | [], ss, ρ => by rw [List.nil_append]; simp [evB]
  | s :: x, ss, ρ => by
    rw [List.cons_append, evB, evB]
    cases evS T s ρ <;> first | rfl | exact evB_append x ss _
theorem evB_nx {s : S} (h : evS T s ρ = .nx ρ1) : evB T (s :: ss) ρ = evB T ss ρ1 := by rw [evB, h]
theorem wp_nil (h : Q (.nx ρ)) : Wp T [] ρ Q := by unfold Wp; rw [evB]; exact h
theorem wp_nx {s : S} (h : evS T s ρ = .nx ρ1) (k : Wp T ss ρ1 Q) : Wp T (s :: ss) ρ Q := by unfold Wp; rw [evB_nx h]; exact k
theorem evC_ok (he : evE T e ρ = .ok d ρ1) (hp : (isPlace e && !still d) = false) : evC T e ρ = .ok d ρ1 := by unfold evC; rw [he]; show (if (isPlace e && !still d) = true then R.stk else R.ok d ρ1) = _; rw [hp]; rfl
theorem wp_asg {tg : Tg} (he : evE T e ρ = .ok d ρ1) (hp : (isPlace e && !still d) = false) (ha : asg tg d ρ1 = some ρ2) (k : Wp T ss ρ2 Q) : Wp T (.asg tg e :: ss) ρ Q :=
  wp_nx (by rw [evS, evC_ok he hp]; show RS.of (asg tg d ρ1) = _; rw [ha]; rfl) k
theorem wp_expr (he : evE T e ρ = .ok d ρ1) (k : Wp T ss ρ1 Q) : Wp T (.expr e :: ss) ρ Q := wp_nx (by rw [evS, he]; rfl) k
theorem wp_ret (he : evE T e ρ = .ok d ρ1) (hp : (isPlace e && !still d) = false) (k : Q (.rt d ρ1)) : Wp T (.ret e :: ss) ρ Q := by
  unfold Wp; rw [evB, evS, evC_ok he hp]; exact k
theorem wp_retN (k : Q (.rt .non ρ)) : Wp T (.retN :: ss) ρ Q := by unfold Wp; rw [evB, evS]; exact k
theorem wp_pass (k : Wp T ss ρ Q) : Wp T (.pass :: ss) ρ Q := wp_nx (by rw [evS]) k
theorem wp_brk (k : Q (.bk ρ)) : Wp T (.brk :: ss) ρ Q := by unfold Wp; rw [evB, evS]; exact k
theorem wp_cnt (k : Q (.ct ρ)) : Wp T (.cnt :: ss) ρ Q := by unfold Wp; rw [evB, evS]; exact k
theorem wp_raise {cid : Nat} (k : Q (.ex ⟨cid, none⟩ ρ)) : Wp T (.raise cid none :: ss) ρ Q := by unfold Wp; rw [evB, evS]; exact k
theorem wp_raiseN {cid : Nat} {n : Int} (he : evE T e ρ = .ok (.int n) ρ1) (k : Q (.ex ⟨cid, some n⟩ ρ1)) : Wp T (.raise cid (some e) :: ss) ρ Q := by unfold Wp; rw [evB, evS, he]; exact k
theorem wp_asgX {tg : Tg} {x : Exn} (he : evE T e ρ = .exn x ρ1) (k : Q (.ex x ρ1)) : Wp T (.asg tg e :: ss) ρ Q := by unfold Wp; rw [evB, evS]; unfold evC; rw [he]; exact k
theorem wp_exprX {x : Exn} (he : evE T e ρ = .exn x ρ1) (k : Q (.ex x ρ1)) : Wp T (.expr e :: ss) ρ Q := by unfold Wp; rw [evB, evS, he]; exact k
theorem wp_retX {x : Exn} (he : evE T e ρ = .exn x ρ1) (k : Q (.ex x ρ1)) : Wp T (.ret e :: ss) ρ Q := by unfold Wp; rw [evB, evS]; unfold evC; rw [he]; exact k
theorem evT_ok {p : Bool} (hc : evE T c ρ = .ok d ρ1) (ht : truth d = some p) : evT T c ρ = .ok p ρ1 := by unfold evT; rw [hc]; show R.of (truth d) ρ1 = _; rw [ht]; rfl
theorem wp_ifs {p : Bool} {x y : List S} (hc : evE T c ρ = .ok d ρ1) (ht : truth d = some p) (k1 : p = true → Wp T (x ++ ss) ρ1 Q) (k2 : p = false → Wp T (y ++ ss) ρ1 Q) : Wp T (.ifs c x y :: ss) ρ Q := by
  unfold Wp at *
  rw [evB, evS, evT_ok hc ht]
  show Q (match (if p = true then evB T x ρ1 else evB T y ρ1) with | .nx ρ' => evB T ss ρ' | .rt d ρ' => .rt d ρ' | .bk ρ' => .bk ρ' | .ct ρ' => .ct ρ' | .ex x ρ' => .ex x ρ' | .stk => .stk)
  cases p with
  | true => have := k1 rfl; rw [evB_append] at this; simp only [if_true]; revert this; cases evB T x ρ1 <;> exact id
  | false => have := k2 rfl; rw [evB_append] at this; simp only [if_false, Bool.false_eq_true]; revert this; cases evB T y ρ1 <;> exact id
/-- behind a branch that falls through: M -/
def Nx (M : Env → Prop) (Q : RS → Prop) : RS → Prop
  | .nx ρ => M ρ
  | .bk ρ => Q (.bk ρ)
  | .ct ρ => Q (.ct ρ)
  | .rt d ρ => Q (.rt d ρ)
  | .ex x ρ => Q (.ex x ρ)
  | .stk => False
theorem wp_ifj {p : Bool} {x y : List S} (M : Env → Prop) (hc : evE T c ρ = .ok d ρ1) (ht : truth d = some p) (k1 : p = true → Wp T x ρ1 (Nx M Q)) (k2 : p = false → Wp T y ρ1 (Nx M Q)) (k : ∀ ρ', M ρ' → Wp T ss ρ' Q) : Wp T (.ifs c x y :: ss) ρ Q := by
  have fin : ∀ b : List S, Wp T b ρ1 (Nx M Q) → Wp T (b ++ ss) ρ1 Q := fun b h => by
    unfold Wp at *
    rw [evB_append]
    cases q : evB T b ρ1 <;> rw [q] at h <;> first | exact k _ h | exact h | exact h.elim
  exact wp_ifs hc ht (fun q => fin _ (k1 q)) fun q => fin _ (k2 q)
theorem wp_app {i : Nat} {xs : List D} (hi : isL ρ[i]? = true) (he : evE T e ρ = .ok d ρ1) (hp : (isPlace e && !still d) = false) (hx : ρ1[i]? = some (some (.mls xs))) (hl : lineLt xs = true) (k : Wp T ss (ρ1.set i (some (.mls (xs ++ [d])))) Q) : Wp T (.app i e :: ss) ρ Q :=
  wp_nx (by
    rw [evS, hi, evC_ok he hp]
    show (match ρ1[i]? with | some (some d') => RS.of ((appL d' d).map fun d' => ρ1.set i (some d')) | _ => .stk) = _
    rw [hx]
    show RS.of ((if lineLt xs = true then some (D.mls (xs ++ [d])) else none).map fun d' => ρ1.set i (some d')) = _
    rw [hl]; rfl) k
theorem wp_augI {i : Nat} {o : Op} {x y : Int} {z : D} (hx : ρ[i]? = some (some (.int x))) (hp : pur e = true) (he : evE T e ρ = .ok (.int y) ρ1) (ho : opD o [.int x, .int y] = some z) (k : Wp T ss (ρ1.set i (some z)) Q) : Wp T (.aug i o e :: ss) ρ Q :=
  wp_nx (by rw [evS, hx]; show (if pur e = true then _ else _) = _; rw [if_pos hp, he]; show RS.of ((opD o [.int x, .int y]).map fun z => ρ1.set i (some z)) = _; rw [ho]; rfl) k
theorem wp_augS {i : Nat} {x y : Str} {z : D} (hx : ρ[i]? = some (some (.str x))) (hp : pur e = true) (he : evE T e ρ = .ok (.str y) ρ1) (ho : opD .add [.str x, .str y] = some z) (k : Wp T ss (ρ1.set i (some z)) Q) : Wp T (.aug i .add e :: ss) ρ Q :=
  wp_nx (by rw [evS, hx]; show (if pur e = true then _ else _) = _; rw [if_pos hp, he]; show RS.of ((opD .add [.str x, .str y]).map fun z => ρ1.set i (some z)) = _; rw [ho]; rfl) k
theorem wp_setfld {i : Nat} {f : Str} {cc : Nat} {ns : List Str} (he : evE T e ρ = .ok d ρ1) (hp : (isPlace e && !still d) = false) (hx : ρ1[i]? = some (some (.mns cc ns ds))) (hf : (T.flds.contains (cc, f) && decide (ns.length < 900)) = true) (k : Wp T ss (ρ1.set i (some (.mns cc (putFd f d ns ds).1 (putFd f d ns ds).2))) Q) : Wp T (.setfld i f e :: ss) ρ Q :=
  wp_nx (by
    rw [evS, evC_ok he hp]
    show (match ρ1[i]? with | some (some (.mns c ns ds)) => if (T.flds.contains (c, f) && decide (ns.length < 900)) = true then RS.nx (ρ1.set i (some (.mns c (putFd f d ns ds).1 (putFd f d ns ds).2))) else .stk | _ => .stk) = _
    rw [hx]; dsimp only; rw [if_pos hf]) k
theorem wp_setix {i : Nat} {kk : Int} {kx : E} {xs : List D} {j : Nat} (he : evE T e ρ = .ok d ρ1) (hp : (isPlace e && !still d) = false) (hk : pur kx = true) (hx : evE T kx ρ1 = .ok (.int kk) ρ2) (hl : ρ1[i]? = some (some (.mls xs))) (hj : ixD xs.length kk = some j) (k : Wp T ss (ρ1.set i (some (.mls (xs.set j d)))) Q) : Wp T (.setix i [] kx e :: ss) ρ Q :=
  wp_nx (by
    rw [evS, evC_ok he hp]
    show (if pur kx = true then (match evE T kx ρ1 with | .ok (.int k) _ => RS.of (updP T ρ1 i [] fun d' => setL d' k d) | _ => .stk) else .stk) = _
    rw [if_pos hk, hx]
    show RS.of (updP T ρ1 i [] fun d' => setL d' kk d) = _
    have e1 : updP T ρ1 i [] (fun d' => setL d' kk d) = (setL (.mls xs) kk d).map fun y => ρ1.set i (some y) := by unfold updP; simp only [pureP, if_true]; rw [hl]; rfl
    rw [e1]
    show RS.of (((ixD xs.length kk).map fun j => D.mls (xs.set j d)).map _) = _
    rw [hj]; rfl) k
theorem wp_augix {i : Nat} {o : Op} {kx : E} {xs : List D} {kk x y : Int} {z : D} {j : Nat} (hp : (pur kx && pur e) = true) (hl : ρ[i]? = some (some (.mls xs))) (hk : evE T kx ρ = .ok (.int kk) ρ1) (ha : atD xs kk = some (.int x)) (he : evE T e ρ = .ok (.int y) ρ2) (ho : opD o [.int x, .int y] = some z) (hj : ixD xs.length kk = some j)
    (k : Wp T ss (ρ.set i (some (.mls (xs.set j z)))) Q) : Wp T (.augix i o kx e :: ss) ρ Q :=
  wp_nx (by
    rw [evS, if_pos hp, hl, hk]
    show (match atD xs kk, evE T e ρ with | some (.int x), .ok (.int y) _ => (match opD o [.int x, .int y] with | some z => RS.of ((setL (.mls xs) kk z).map fun d => ρ.set i (some d)) | none => .stk) | _, _ => .stk) = _
    rw [ha, he]
    show (match opD o [.int x, .int y] with | some z => RS.of ((setL (.mls xs) kk z).map fun d => ρ.set i (some d)) | none => .stk) = _
    rw [ho]
    show RS.of (((ixD xs.length kk).map fun j => D.mls (xs.set j z)).map _) = _
    rw [hj]; rfl) k
/-! ### try -/
theorem wp_try {body : List S} {hs : List (Nat × Option Nat × List S)} (h : Wp T body ρ (fun r => match r with
    | .ex x ρ1 => (match evH T x hs ρ1 with
      | .nx ρ2 => Wp T ss ρ2 Q
      | .stk => False
      | r => Q r)
    | .nx ρ2 => Wp T ss ρ2 Q
    | .stk => False
    | r => Q r)) : Wp T (.try body hs :: ss) ρ Q := by
  unfold Wp at h ⊢
  rw [evB, evS]
  cases q : evB T body ρ with
  | ex x ρ1 =>
    rw [q] at h
    dsimp only at h ⊢
    cases q2 : evH T x hs ρ1 <;> rw [q2] at h <;> first | exact h | exact h.elim
  | nx ρ1 => rw [q] at h; exact h
  | rt d ρ1 => rw [q] at h; exact h
  | bk ρ1 => rw [q] at h; exact h
  | ct ρ1 => rw [q] at h; exact h
  | stk => rw [q] at h; exact h.elim
/-! ### loops -/
theorem loopF_by {α : Type} {enc : α → D} {f : D → Env → RS} {B : Env → Prop} {Q : RS → Prop} {xs : List α} (P : List α → Env → Prop) (hs : ∀ pre x post ρ, xs = pre ++ x :: post → P pre ρ → Lp (P (pre ++ [x])) B Q (f (enc x) ρ)) :
    ∀ (pre post : List α) (ρ : Env), xs = pre ++ post → P pre ρ → (∃ ρ', loopF f (post.map enc) ρ = .nx ρ' ∧ (P xs ρ' ∨ B ρ')) ∨ (∃ r, loopF f (post.map enc) ρ = r ∧ Q r ∧ ((∃ d ρ, r = .rt d ρ) ∨ ∃ x ρ, r = .ex x ρ))
  | pre, [], ρ, e, p => .inl ⟨ρ, rfl, .inl (by rw [e, List.append_nil]; exact p)⟩
  | pre, x :: post, ρ, e, p => by
    have h := hs pre x post ρ e p
    rw [List.map_cons, loopF]
    cases q : f (enc x) ρ with
    | nx ρ' => rw [q] at h; exact loopF_by P hs (pre ++ [x]) post ρ' (by rw [e]; simp) h
    | ct ρ' => rw [q] at h; exact loopF_by P hs (pre ++ [x]) post ρ' (by rw [e]; simp) h
    | bk ρ' => rw [q] at h; exact .inl ⟨ρ', rfl, .inr h⟩
    | rt d ρ' => rw [q] at h; exact .inr ⟨_, rfl, h, .inl ⟨_, _, rfl⟩⟩
    | ex y ρ' => rw [q] at h; exact .inr ⟨_, rfl, h, .inr ⟨_, _, rfl⟩⟩
    | stk => rw [q] at h; exact h.elim
theorem wp_for {α : Type} {enc : α → D} {xs : List α} {tg : Tg} {ik : IK} {ies : List E} {body : List S} (P : List α → Env → Prop) (hi : evEs T anyD ies ρ = .ok ds ρ1) (hit : iterD ik ds = some (xs.map enc)) (hst : stills (xs.map enc) = true) (hq : (quietB body || stills ds) = true) (h0 : P [] ρ1)
    (hs : ∀ pre x post ρ, xs = pre ++ x :: post → P pre ρ → ∃ ρ2, asg tg (enc x) ρ = some ρ2 ∧ Wp T body ρ2 (Lp (P (pre ++ [x])) (fun ρ' => Wp T ss ρ' Q) Q)) (hd : ∀ ρ, P xs ρ → Wp T ss ρ Q) : Wp T (.fors tg ik ies body :: ss) ρ Q := by
  replace hq := flip_or hq
  unfold Wp
  rw [evB, evS, hi]
  show Q (match (match iterD ik ds with | none => RS.stk | some items => if (!stills items || (!stills ds && !quietB body)) = true then .stk else loopF (fun x ρ => match asg tg x ρ with | none => .stk | some ρ2 => evB T body ρ2) items ρ1) with | .nx ρ' => evB T ss ρ' | .rt d ρ' => .rt d ρ' | .bk ρ' => .bk ρ' | .ct ρ' => .ct ρ' | .ex x ρ' => .ex x ρ' | .stk => .stk)
  rw [hit]
  dsimp only
  rw [hst, hq]
  simp only [Bool.not_true, Bool.or_false, Bool.false_eq_true, if_false]
  have h := loopF_by (f := fun x ρ => match asg tg x ρ with | none => .stk | some ρ2 => evB T body ρ2) (B := fun ρ' => Wp T ss ρ' Q) (Q := Q) P (fun pre x post ρ e p => by
    obtain ⟨ρ2, h1, h2⟩ := hs pre x post ρ e p
    rw [h1]
    exact h2) [] xs ρ1 rfl h0
  rcases h with ⟨ρ', h1, h2⟩ | ⟨r, h1, h2, h3⟩
  · rw [h1]
    rcases h2 with h2 | h2
    · exact hd ρ' h2
    · exact h2
  · rw [h1]
    rcases h3 with ⟨d, ρ, rfl⟩ | ⟨x, ρ, rfl⟩
    · exact h2
    · exact h2
theorem loopW_by {cnd : Env → R Bool} {f : Env → RS} {B : Env → Prop} {Q : RS → Prop} (P : Nat → Env → Prop) (hs : ∀ m ρ, P m ρ → ∃ p ρ1, cnd ρ = .ok p ρ1 ∧ (p = true → Lp (fun ρ' => ∃ m', m' < m ∧ P m' ρ') B Q (f ρ1)) ∧ (p = false → B ρ1)) :
    ∀ (n m : Nat) (ρ : Env), m < n → P m ρ → (∃ ρ', loopW cnd f n ρ = .nx ρ' ∧ B ρ') ∨ (∃ r, loopW cnd f n ρ = r ∧ Q r ∧ ((∃ d ρ, r = .rt d ρ) ∨ ∃ x ρ, r = .ex x ρ))
  | 0, m, ρ, e, p => by omega
  | n + 1, m, ρ, e, p => by
    obtain ⟨q, ρ1, h1, h2, h3⟩ := hs m ρ p
    rw [loopW, h1]
    cases q with
    | false => exact .inl ⟨ρ1, rfl, h3 rfl⟩
    | true =>
      have h := h2 rfl
      dsimp only
      cases q : f ρ1 with
      | nx ρ' => rw [q] at h; obtain ⟨m', l, h⟩ := h; exact loopW_by P hs n m' ρ' (by omega) h
      | ct ρ' => rw [q] at h; obtain ⟨m', l, h⟩ := h; exact loopW_by P hs n m' ρ' (by omega) h
      | bk ρ' => rw [q] at h; exact .inl ⟨ρ', rfl, h⟩
      | rt d ρ' => rw [q] at h; exact .inr ⟨_, rfl, h, .inl ⟨_, _, rfl⟩⟩
      | ex y ρ' => rw [q] at h; exact .inr ⟨_, rfl, h, .inr ⟨_, _, rfl⟩⟩
      | stk => rw [q] at h; exact h.elim
theorem wp_whl {n m : Nat} {body : List S} (P : Nat → Env → Prop) (hm : m < n) (h0 : P m ρ)
    (hs : ∀ m ρ, P m ρ → ∃ p ρ1, evT T c ρ = .ok p ρ1 ∧ (p = true → Wp T body ρ1 (Lp (fun ρ' => ∃ m', m' < m ∧ P m' ρ') (fun ρ' => Wp T ss ρ' Q) Q)) ∧ (p = false → Wp T ss ρ1 Q)) : Wp T (.whl n c body :: ss) ρ Q := by
  unfold Wp
  rw [evB, evS]
  rcases loopW_by (cnd := evT T c) (f := evB T body) (B := fun ρ' => Wp T ss ρ' Q) (Q := Q) P hs n m ρ hm h0 with ⟨ρ', h1, h2⟩ | ⟨r, h1, h2, h3⟩
  · rw [h1]; exact h2
  · rw [h1]
    rcases h3 with ⟨d, ρ, rfl⟩ | ⟨x, ρ, rfl⟩
    · exact h2
    · exact h2
/-! ### comprehensions -/
theorem loopC_by {α : Type} {enc : α → D} {f : D → Env → R (Option D)} {I : Env → Prop} {p : α → Bool} {g : α → D} :
    ∀ (xs : List α) (hs : ∀ x ∈ xs, ∀ ρ, I ρ → ∃ ρ', f (enc x) ρ = .ok (if p x = true then some (g x) else none) ρ' ∧ I ρ') (acc : List D) (ρ : Env), I ρ → ∃ ρ', loopC f (xs.map enc) ρ acc = .ok (acc ++ (xs.filter p).map g) ρ' ∧ I ρ'
  | [], hs, acc, ρ, i => ⟨ρ, by simp [loopC], i⟩
  | x :: xs, hs, acc, ρ, i => by
    obtain ⟨ρ', h1, h2⟩ := hs x List.mem_cons_self ρ i
    rw [List.map_cons, loopC, h1]
    cases hp : p x with
    | true =>
      obtain ⟨ρ2, h3, h4⟩ := loopC_by xs (fun y hy => hs y (List.mem_cons_of_mem _ hy)) (acc ++ [g x]) ρ' h2
      exact ⟨ρ2, by simp only [if_true]; rw [h3]; simp [List.filter_cons, hp], h4⟩
    | false =>
      obtain ⟨ρ2, h3, h4⟩ := loopC_by xs (fun y hy => hs y (List.mem_cons_of_mem _ hy)) acc ρ' h2
      exact ⟨ρ2, by simp only [if_false, Bool.false_eq_true]; rw [h3]; simp [List.filter_cons, hp], h4⟩
theorem wipeD_wipe (own : List Nat) (ρ : Env) : wipeD (wipeD ρ own) own = wipeD ρ own := wipeD_twice fun _ h => h
theorem backD_wipe {ρ ρ5 : Env} : ∀ {own : List Nat}, wipeD ρ5 own = wipeD ρ own → (∀ i ∈ own, i < ρ.length) → backD ρ ρ5 own = ρ := by
  intro own h hl
  have len : ρ5.length = ρ.length := by rw [← wipeD_len own, h, wipeD_len]
  refine List.ext_getElem? fun i => ?_
  by_cases hi : i ∈ own
  · clear h
    induction own with
    | nil => cases hi
    | cons j own ih =>
      show ((backD ρ ρ5 own).set j (ρ[j]?.getD none))[i]? = _
      by_cases q : j = i
      · subst q
        have hj := hl j List.mem_cons_self
        rw [List.getElem?_set_self (by rw [backD_len, len]; exact hj), List.getElem?_eq_getElem hj]
        rfl
      · rw [List.getElem?_set_ne q]
        exact ih (fun k hk => hl k (List.mem_cons_of_mem _ hk)) (by rcases List.mem_cons.mp hi with e | e; exact absurd e.symm q; exact e)
  · rw [backD_at own hi, ← wipeD_at own hi, h, wipeD_at own hi]
theorem ev_comp {α : Type} {enc : α → D} {xs : List α} {elt : E} {tg : Tg} {ik : IK} {ies ifs : List E} {own : List Nat} {p : α → Bool} {g : α → D} {w : Env} (hi : evEs T anyD ies ρ = .ok ds ρ1) (hit : iterD ik ds = some (xs.map enc)) (hst : stills (xs.map enc) = true) (hl : xs.length < 16777216)
    (ho : ownOk ρ1 own = true) (hq : ((quiet elt && quiets ifs) || stills ds) = true) (hw : wipeD ρ1 own = w) (hr : (own.all fun i => decide (i < ρ1.length)) = true)
    (hs : ∀ x ∈ xs, ∃ ρ2, asg tg (enc x) w = some ρ2 ∧ wipeD ρ2 own = w ∧ evIfs T ifs ρ2 = .ok (p x) ρ2 ∧ (p x = true → evE T elt ρ2 = .ok (g x) ρ2 ∧ (isPlace elt && !still (g x)) = false)) : evE T (.comp elt tg ik ies ifs own) ρ = .ok (.mls ((xs.filter p).map g)) ρ1 := by
  replace hq := flip_or hq
  rw [evE, hi]
  show (match iterD ik ds with | none => R.stk | some items => _) = _
  rw [hit]
  dsimp only
  have hl' : lineLt (xs.map enc) = true := decide_eq_true (by rw [List.length_map]; exact hl)
  rw [hst, hl', ho, hq]
  show (loopC _ _ _ _).bind _ = _
  obtain ⟨ρ5, h1, h2⟩ := loopC_by (enc := enc) (p := p) (g := g) (I := fun ρ => wipeD ρ own = w) (f := fun x ρ => match asg tg x (wipeD ρ own) with
        | none => R.stk
        | some ρ2 => (evIfs T ifs ρ2).bind fun b ρ3 => if b = true then (evE T elt ρ3).bind fun d ρ4 => if (isPlace elt && !still d) = true then .stk else .ok (some d) ρ4 else .ok none ρ3) xs (fun x hx ρ hρ => by
    obtain ⟨ρ2, a1, a2, a3, a4⟩ := hs x hx
    refine ⟨ρ2, ?_, a2⟩
    rw [hρ, a1]
    dsimp only
    rw [a3]
    show (if p x = true then _ else _) = _
    cases hp : p x with
    | false => rfl
    | true =>
      obtain ⟨b1, b2⟩ := a4 hp
      show (evE T elt ρ2).bind _ = _
      rw [b1]
      show (if (isPlace elt && !still (g x)) = true then R.stk else _) = _
      rw [b2]
      rfl) [] ρ1 hw
  refine (congrArg (fun r => R.bind r fun acc ρ5 => R.ok (D.mls acc) (backD ρ1 ρ5 own)) h1).trans ?_
  show R.ok (D.mls ([] ++ (xs.filter p).map g)) (backD ρ1 ρ5 own) = _
  rw [backD_wipe (h2.trans hw.symm) (fun i hi => of_decide_eq_true (List.all_eq_true.mp hr i hi)), List.nil_append]
/-- without a test -/
theorem ev_comp0 {α : Type} {enc : α → D} {xs : List α} {elt : E} {tg : Tg} {ik : IK} {ies : List E} {own : List Nat} {g : α → D} {w : Env} (hi : evEs T anyD ies ρ = .ok ds ρ1) (hit : iterD ik ds = some (xs.map enc)) (hst : stills (xs.map enc) = true) (hl : xs.length < 16777216)
    (ho : ownOk ρ1 own = true) (hq : ((quiet elt && quiets []) || stills ds) = true) (hw : wipeD ρ1 own = w) (hr : (own.all fun i => decide (i < ρ1.length)) = true)
    (hs : ∀ x ∈ xs, ∃ ρ2, asg tg (enc x) w = some ρ2 ∧ wipeD ρ2 own = w ∧ evE T elt ρ2 = .ok (g x) ρ2 ∧ (isPlace elt && !still (g x)) = false) : evE T (.comp elt tg ik ies [] own) ρ = .ok (.mls (xs.map g)) ρ1 := by
  have := ev_comp (p := fun _ => true) (g := g) hi hit hst hl ho hq hw hr fun x hx => by
    obtain ⟨ρ2, h1, h2, h3⟩ := hs x hx
    exact ⟨ρ2, h1, h2, by rw [evIfs], fun _ => h3⟩
  rw [this, List.filter_eq_self.mpr fun _ _ => rfl]
theorem ev_if1 {p : Bool} (hc : evE T c ρ = .ok d ρ1) (ht : truth d = some p) : evIfs T [c] ρ = .ok p ρ1 := by rw [evIfs, hc]; show R.of (truth d) ρ1 = _; rw [ht]; rfl
theorem ev_iteT (hc : evE T c ρ = .ok d ρ1) (ht : truth d = some true) (h1 : evE T a ρ1 = .ok d1 ρ2) (hp : (isPlace a && !still d1) = false) : evE T (.ite c a b) ρ = .ok d1 ρ2 := by
  rw [evE, hc]
  show (match truth d with | some true => _ | some false => _ | none => _) = _
  rw [ht]
  show (evE T a ρ1).bind _ = _
  rw [h1]
  show (if (isPlace a && !still d1) = true then R.stk else _) = _
  rw [hp]; rfl
theorem ev_iteF (hc : evE T c ρ = .ok d ρ1) (ht : truth d = some false) (h1 : evE T b ρ1 = .ok d1 ρ2) (hp : (isPlace b && !still d1) = false) : evE T (.ite c a b) ρ = .ok d1 ρ2 := by
  rw [evE, hc]
  show (match truth d with | some true => _ | some false => _ | none => _) = _
  rw [ht]
  show (evE T b ρ1).bind _ = _
  rw [h1]
  show (if (isPlace b && !still d1) = true then R.stk else _) = _
  rw [hp]; rfl
/-- two loops: for each item a frozen list of items, all elements as they stand -/
theorem loopC_all {α : Type} {enc : α → D} {f : D → Env → R (Option D)} {I : Env → Prop} {g : α → D} (xs : List α) (hs : ∀ x ∈ xs, ∀ ρ, I ρ → ∃ ρ', f (enc x) ρ = .ok (some (g x)) ρ' ∧ I ρ') (acc : List D) (ρ : Env) (h : I ρ) : ∃ ρ', loopC f (xs.map enc) ρ acc = .ok (acc ++ xs.map g) ρ' ∧ I ρ' := by
  have := loopC_by (enc := enc) (f := f) (I := I) (p := fun _ => true) (g := g) xs (fun x hx ρ hρ => by
    obtain ⟨ρ', h1, h2⟩ := hs x hx ρ hρ
    exact ⟨ρ', by rw [h1]; rfl, h2⟩) acc ρ h
  rwa [List.filter_eq_self.mpr fun _ _ => rfl] at this
theorem loopC2_by {α : Type} {enc : α → D} {f : D → Env → List D → R (List D)} {I : Env → Prop} {g : α → List D} :
    ∀ (xs : List α) (hs : ∀ x ∈ xs, ∀ ρ acc, I ρ → acc.length + (g x).length < 16777216 → ∃ ρ', f (enc x) ρ acc = .ok (acc ++ g x) ρ' ∧ I ρ') (acc : List D) (ρ : Env), I ρ → acc.length + (xs.flatMap g).length < 16777216 → ∃ ρ', loopC2 f (xs.map enc) ρ acc = .ok (acc ++ xs.flatMap g) ρ' ∧ I ρ'
  | [], hs, acc, ρ, i, _ => ⟨ρ, by simp [loopC2], i⟩
  | x :: xs, hs, acc, ρ, i, hl => by
    rw [List.flatMap_cons, List.length_append] at hl
    obtain ⟨ρ', h1, h2⟩ := hs x List.mem_cons_self ρ acc i (by omega)
    obtain ⟨ρ2, h3, h4⟩ := loopC2_by xs (fun y hy => hs y (List.mem_cons_of_mem _ hy)) (acc ++ g x) ρ' h2 (by rw [List.length_append]; omega)
    refine ⟨ρ2, ?_, h4⟩
    rw [List.map_cons, loopC2, h1]
    dsimp only
    rw [h3, List.flatMap_cons, List.append_assoc]
theorem ev_comp2 {α β : Type} {enc : α → D} {enc' : β → D} {xs : List α} {ys : α → List β} {elt : E} {tg tg' : Tg} {ik ik' : IK} {ies ies' : List E} {own : List Nat} {g : α → β → D} {w : Env} (hi : evEs T anyD ies ρ = .ok ds ρ1) (hit : iterD ik ds = some (xs.map enc)) (hst : stills (xs.map enc) = true) (hl : (xs.flatMap ys).length < 16777216)
    (ho : ownOk ρ1 own = true) (hq : ((quiet elt && quiets ies') || stills ds) = true) (hw : wipeD ρ1 own = w) (hr : (own.all fun i => decide (i < ρ1.length)) = true)
    (hs : ∀ x ∈ xs, ∃ ρ2 ds', asg tg (enc x) w = some ρ2 ∧ evEs T anyD ies' ρ2 = .ok ds' ρ2 ∧ iterD ik' ds' = some ((ys x).map enc') ∧ stills ((ys x).map enc') = true ∧ stills ds' = true ∧ wipeD ρ2 own = w ∧
      ∀ y ∈ ys x, ∀ ρ, wipeD ρ (tgSl tg') = wipeD ρ2 (tgSl tg') → ∃ ρ3, asg tg' (enc' y) (wipeD ρ (tgSl tg')) = some ρ3 ∧ wipeD ρ3 (tgSl tg') = wipeD ρ2 (tgSl tg') ∧ wipeD ρ3 own = w ∧ evE T elt ρ3 = .ok (g x y) ρ3 ∧ (isPlace elt && !still (g x y)) = false) :
    evE T (.comp2 elt tg ik ies tg' ik' ies' own) ρ = .ok (.mls (xs.flatMap fun x => (ys x).map (g x))) ρ1 := by
  replace hq := flip_or hq
  rw [evE, hi]
  show (match iterD ik ds with | none => R.stk | some items => _) = _
  rw [hit]
  dsimp only
  rw [hst, ho, hq]
  show (loopC2 _ _ _ _).bind _ = _
  obtain ⟨ρ5, h1, h2⟩ := loopC2_by (enc := enc) (g := fun x => (ys x).map (g x)) (I := fun ρ => wipeD ρ own = w) (f := fun x ρ acc => match asg tg x (wipeD ρ own) with
        | none => R.stk
        | some ρ2 => (evEs T anyD ies' ρ2).bind fun ds' ρ3 => match iterD ik' ds' with
          | none => .stk
          | some items' => if (!(stills items' && decide (acc.length + items'.length < 16777216)) || !stills ds') = true then .stk else
            loopC (fun x ρ => match asg tg' x (wipeD ρ (tgSl tg')) with
              | none => .stk
              | some ρ2 => (evE T elt ρ2).bind fun d ρ4 => if (isPlace elt && !still d) = true then .stk else .ok (some d) ρ4) items' ρ3 acc) xs (fun x hx ρ acc hρ hlen => by
    obtain ⟨ρ2, ds', a1, a2, a3, a4, a5, a6, a7⟩ := hs x hx
    rw [List.length_map] at hlen
    obtain ⟨ρ6, b1, b2, b3⟩ := loopC_all (enc := enc') (g := g x) (I := fun ρ => wipeD ρ (tgSl tg') = wipeD ρ2 (tgSl tg') ∧ wipeD ρ own = w) (f := fun x ρ => match asg tg' x (wipeD ρ (tgSl tg')) with
              | none => .stk
              | some ρ2 => (evE T elt ρ2).bind fun d ρ4 => if (isPlace elt && !still d) = true then .stk else .ok (some d) ρ4) (ys x) (fun y hy ρ hρ => by
      obtain ⟨ρ3, c1, c2, c3, c4, c5⟩ := a7 y hy ρ hρ.1
      refine ⟨ρ3, ?_, c2, c3⟩
      rw [c1]
      show (evE T elt ρ3).bind _ = _
      rw [c4]
      show (if (isPlace elt && !still (g x y)) = true then R.stk else _) = _
      rw [c5]; rfl) acc ρ2 ⟨rfl, a6⟩
    refine ⟨ρ6, ?_, b3⟩
    rw [hρ, a1]
    show (evEs T anyD ies' ρ2).bind _ = _
    rw [a2]
    show (match iterD ik' ds' with | none => R.stk | some items' => _) = _
    rw [a3]
    dsimp only
    rw [a4, a5, List.length_map, decide_eq_true hlen]
    exact b1) [] ρ1 hw (by
      simp only [List.length_nil, Nat.zero_add]
      refine Nat.lt_of_le_of_lt (Nat.le_of_eq ?_) hl
      rw [List.length_flatMap, List.length_flatMap]
      simp)
  refine (congrArg (fun r => R.bind r fun acc ρ5 => R.ok (D.mls acc) (backD ρ1 ρ5 own)) h1).trans ?_
  show R.ok (D.mls ([] ++ xs.flatMap fun x => (ys x).map (g x))) (backD ρ1 ρ5 own) = _
  rw [backD_wipe (h2.trans hw.symm) (fun i hi => of_decide_eq_true (List.all_eq_true.mp hr i hi)), List.nil_append]
end
end Pd

set_option Elab.async false
set_option linter.all false
set_option maxRecDepth 100000
/-! PdY: operators over open values. -/
namespace Pd
open PySem
theorem op_addI {i j : Int} : opD .add [.int i, .int j] = some (.int (i + j)) := rfl
theorem op_subI {i j : Int} : opD .sub [.int i, .int j] = some (.int (i - j)) := rfl
theorem mulOk_l {i j : Int} (h : -18446744073709551616 < i ∧ i < 18446744073709551616) : mulOk i j = true := by
  unfold mulOk; rw [decide_eq_true (show -(2 ^ 64) < i ∧ i < 2 ^ 64 from h)]; rfl
theorem mulOk_r {i j : Int} (h : -18446744073709551616 < j ∧ j < 18446744073709551616) : mulOk i j = true := by
  unfold mulOk; rw [decide_eq_true (show -(2 ^ 64) < j ∧ j < 2 ^ 64 from h)]; simp
theorem op_mulI {i j : Int} (h : mulOk i j = true) : opD .mul [.int i, .int j] = some (.int (i * j)) := by
  show (if mulOk i j = true then some (D.int (i * j)) else none) = _; rw [h]; rfl
theorem op_mulL {i j : Int} (h : -18446744073709551616 < i ∧ i < 18446744073709551616) : opD .mul [.int i, .int j] = some (.int (i * j)) := op_mulI (mulOk_l h)
theorem op_mulR {i j : Int} (h : -18446744073709551616 < j ∧ j < 18446744073709551616) : opD .mul [.int i, .int j] = some (.int (i * j)) := op_mulI (mulOk_r h)
theorem op_fdiv {i j : Int} (h : 0 < j ∧ j < 1073741824) : opD .fdiv [.int i, .int j] = some (.int (i / j)) := if_pos h
theorem op_mod {i j : Int} (h : 0 < j) : opD .mod [.int i, .int j] = some (.int (i % j)) := if_pos h
theorem op_shl {i j : Int} (h : shlOk i j = true) : opD .shl [.int i, .int j] = some (.int (i * 2 ^ j.toNat)) := if_pos h
theorem shlOk_one {j : Int} (h : 0 ≤ j ∧ j ≤ 100000) : shlOk 1 j = true := by
  unfold shlOk
  have e : (Builtin.Int.intBits 1 : Int) = 1 := by decide +kernel
  refine decide_eq_true ⟨h.1, ?_⟩
  rw [e]; omega
theorem op_shl1 {j : Int} (h : 0 ≤ j ∧ j ≤ 100000) : opD .shl [.int 1, .int j] = some (.int (2 ^ j.toNat)) := by rw [op_shl (shlOk_one h), Int.one_mul]
theorem op_shr {i j : Int} (h : 0 ≤ j) : opD .shr [.int i, .int j] = some (.int (i / 2 ^ j.toNat)) := if_pos h
theorem op_band {i j : Int} : opD .band [.int i, .int j] = some (.int (Builtin.bitAnd i j)) := rfl
theorem op_bor {i j : Int} : opD .bor [.int i, .int j] = some (.int (Builtin.bitOr i j)) := rfl
theorem op_bxor {i j : Int} : opD .bxor [.int i, .int j] = some (.int (Builtin.bitXor i j)) := rfl
theorem op_neg {i : Int} : opD .neg [.int i] = some (.int (-i)) := rfl
theorem op_lt {i j : Int} : opD .lt [.int i, .int j] = some (.bl (decide (i < j))) := rfl
theorem op_le {i j : Int} : opD .le [.int i, .int j] = some (.bl (decide (i ≤ j))) := rfl
theorem op_gt {i j : Int} : opD .gt [.int i, .int j] = some (.bl (decide (j < i))) := rfl
theorem op_ge {i j : Int} : opD .ge [.int i, .int j] = some (.bl (decide (j ≤ i))) := rfl
theorem op_isN {d : D} : opD .isN [d] = some (.bl (isNB d)) := rfl
theorem op_isnN {d : D} : opD .isnN [d] = some (.bl (!isNB d)) := rfl
theorem op_lenL {ds : List D} : opD .len [.lst ds] = some (.int ds.length) := rfl
theorem op_lenM {ds : List D} : opD .len [.mls ds] = some (.int ds.length) := rfl
theorem op_lenT {ds : List D} : opD .len [.tup ds] = some (.int ds.length) := rfl
theorem op_intI {i : Int} : opD .int [.int i] = some (.int i) := rfl
theorem op_absI {i : Int} : opD .abs [.int i] = some (.int (if i < 0 then -i else i)) := rfl
theorem op_tupleL {ds : List D} : opD .tuple [.lst ds] = some (.tup ds) := rfl
theorem op_tupleM {ds : List D} (h : stills ds = true) : opD .tuple [.mls ds] = some (.tup ds) := by show (if stills ds = true then some ds else none).map D.tup = _; rw [h]; rfl
theorem op_tupleT {ds : List D} (h : stills ds = true) : opD .tuple [.tup ds] = some (.tup ds) := if_pos h
theorem op_listL {ds : List D} : opD .list [.lst ds] = some (.mls ds) := rfl
theorem op_listM {ds : List D} (h : stills ds = true) : opD .list [.mls ds] = some (.mls ds) := by show (if stills ds = true then some ds else none).map D.mls = _; rw [h]; rfl
theorem op_listT {ds : List D} (h : stills ds = true) : opD .list [.tup ds] = some (.mls ds) := if_pos h
theorem op_addT {a b : List D} (h : stills a = true) (k : stills b = true) (l : a.length + b.length ≤ 16777216) : opD .add [.tup a, .tup b] = some (.tup (a ++ b)) := if_pos ⟨⟨h, k⟩, l⟩
theorem op_addLL {a b : List D} (l : a.length + b.length ≤ 16777216) : opD .add [.lst a, .lst b] = some (.mls (a ++ b)) := if_pos l
theorem op_addML {a b : List D} (h : stills a = true) (l : a.length + b.length ≤ 16777216) : opD .add [.mls a, .lst b] = some (.mls (a ++ b)) := by
  show (match listOf (.mls a), listOf (.lst b) with | some xs, some ys => if xs.length + ys.length ≤ 16777216 then some (D.mls (xs ++ ys)) else none | _, _ => none) = _
  have e : listOf (.mls a) = some a := if_pos h
  rw [e]; exact if_pos l
theorem op_addLM {a b : List D} (h : stills b = true) (l : a.length + b.length ≤ 16777216) : opD .add [.lst a, .mls b] = some (.mls (a ++ b)) := by
  show (match listOf (.lst a), listOf (.mls b) with | some xs, some ys => if xs.length + ys.length ≤ 16777216 then some (D.mls (xs ++ ys)) else none | _, _ => none) = _
  have e : listOf (.mls b) = some b := if_pos h
  rw [e]; exact if_pos l
theorem op_addMM {a b : List D} (h : stills a = true) (k : stills b = true) (l : a.length + b.length ≤ 16777216) : opD .add [.mls a, .mls b] = some (.mls (a ++ b)) := by
  show (match listOf (.mls a), listOf (.mls b) with | some xs, some ys => if xs.length + ys.length ≤ 16777216 then some (D.mls (xs ++ ys)) else none | _, _ => none) = _
  have e : listOf (.mls a) = some a := if_pos h
  have e' : listOf (.mls b) = some b := if_pos k
  rw [e, e']; exact if_pos l
theorem op_addS {a b : Str} (l : a.length + b.length ≤ 16777216) : opD .add [.str a, .str b] = some (.str (a ++ b)) := if_pos l
theorem boolsOf_map {α : Type} {f : α → Bool} : ∀ xs : List α, boolsOf (xs.map fun x => .bl (f x)) = some (xs.map f)
  | [] => rfl
  | x :: xs => by rw [List.map_cons, boolsOf, boolsOf_map xs]; rfl
theorem op_all {α : Type} {f : α → Bool} {xs : List α} : opD .all [.mls (xs.map fun x => .bl (f x))] = some (.bl (xs.all f)) := by
  show ((boolsOf (xs.map fun x => .bl (f x))).map fun bs => D.bl (bs.all id)) = _
  rw [boolsOf_map]; simp [List.all_map]
theorem op_any {α : Type} {f : α → Bool} {xs : List α} : opD .any [.mls (xs.map fun x => .bl (f x))] = some (.bl (xs.any f)) := by
  show ((boolsOf (xs.map fun x => .bl (f x))).map fun bs => D.bl (bs.any id)) = _
  rw [boolsOf_map]; simp [List.any_map]
/-! ### slices -/
theorem op_slH {ds : List D} {j : Int} (h : stills ds = true) (h0 : 0 ≤ j) : opD (.sl false true) [.tup ds, .int j] = some (.tup (ds.take j.toNat)) := by
  show slD (.tup ds) none (some j) = _
  unfold slD
  simp only [h, if_true]
  unfold cutD cutIx
  simp only [List.drop_zero, Nat.sub_zero, show ¬ j < 0 by omega, if_false]
  rw [List.take_eq_take_iff.mpr]; omega
theorem op_slL {ds : List D} {j : Int} (h : stills ds = true) (h0 : 0 ≤ j) : opD (.sl true false) [.tup ds, .int j] = some (.tup (ds.drop j.toNat)) := by
  show slD (.tup ds) (some j) none = _
  unfold slD
  simp only [h, if_true]
  unfold cutD cutIx
  simp only [show ¬ j < 0 by omega, if_false]
  rw [List.take_of_length_le (by rw [List.length_drop]; omega)]
  by_cases q : j.toNat ≤ ds.length
  · rw [Nat.min_eq_left q]
  · rw [Nat.min_eq_right (by omega), List.drop_eq_nil_of_le (Nat.le_refl _), List.drop_eq_nil_of_le (by omega)]
theorem op_slHL {ds : List D} {j : Int} (h0 : 0 ≤ j) : opD (.sl false true) [.lst ds, .int j] = some (.mls (ds.take j.toNat)) := by
  show slD (.lst ds) none (some j) = _
  unfold slD
  dsimp only
  unfold cutD cutIx
  simp only [List.drop_zero, Nat.sub_zero, show ¬ j < 0 by omega, if_false]
  rw [List.take_eq_take_iff.mpr]; omega
theorem op_slLL {ds : List D} {j : Int} (h0 : 0 ≤ j) : opD (.sl true false) [.lst ds, .int j] = some (.mls (ds.drop j.toNat)) := by
  show slD (.lst ds) (some j) none = _
  unfold slD
  dsimp only
  unfold cutD cutIx
  simp only [show ¬ j < 0 by omega, if_false]
  rw [List.take_of_length_le (by rw [List.length_drop]; omega)]
  by_cases q : j.toNat ≤ ds.length
  · rw [Nat.min_eq_left q]
  · rw [Nat.min_eq_right (by omega), List.drop_eq_nil_of_le (Nat.le_refl _), List.drop_eq_nil_of_le (by omega)]
/-! ### items -/
theorem ixD_nat {n : Nat} {k : Int} (h0 : 0 ≤ k) (h1 : k < n) : ixD n k = some k.toNat := by unfold ixD; rw [if_pos h0, if_pos h1]
theorem atD_map {α : Type} [Inhabited α] {enc : α → D} {xs : List α} {k : Int} (h0 : 0 ≤ k) (h1 : k < xs.length) : atD (xs.map enc) k = some (enc (xs.getD k.toNat default)) := by
  unfold atD
  rw [ixD_nat h0 (by rw [List.length_map]; exact h1)]
  show (xs.map enc)[k.toNat]? = _
  have hk : k.toNat < xs.length := by omega
  rw [List.getElem?_map, List.getD_eq_getElem?_getD, List.getElem?_eq_getElem hk]; rfl
theorem ix_lst {α : Type} [Inhabited α] {enc : α → D} {xs : List α} {k : Int} (h0 : 0 ≤ k) (h1 : k < xs.length) : ixOf (.lst (xs.map enc)) (.int k) = some (enc (xs.getD k.toNat default)) := atD_map h0 h1
theorem ix_mls {α : Type} [Inhabited α] {enc : α → D} {xs : List α} {k : Int} (h0 : 0 ≤ k) (h1 : k < xs.length) : ixOf (.mls (xs.map enc)) (.int k) = some (enc (xs.getD k.toNat default)) := atD_map h0 h1
theorem ix_tup {α : Type} [Inhabited α] {enc : α → D} {xs : List α} {k : Int} (h0 : 0 ≤ k) (h1 : k < xs.length) : ixOf (.tup (xs.map enc)) (.int k) = some (enc (xs.getD k.toNat default)) := atD_map h0 h1
/-! ### iterators -/
theorem it_rng {j : Int} (h : -1000000 ≤ j ∧ j ≤ 1000000) : iterD .rng1 [.int j] = some ((List.range j.toNat).map fun k => .int (k : Nat)) := by
  show (if rngOk j = true then some (ivl 0 j) else none) = _
  have : rngOk j = true := decide_eq_true ⟨by omega, by omega⟩
  rw [if_pos this]
  unfold ivl
  rw [Int.sub_zero]
  simp
theorem it_rngN {n m : Nat} (e : n = m) (h : m ≤ 1000000) : iterD .rng1 [.int (n : Int)] = some ((List.range m).map fun k : Nat => D.int (k : Int)) := by
  subst e
  refine (it_rng (by omega)).trans ?_
  rw [Int.toNat_natCast]
theorem it_seqL {ds : List D} : iterD .seq [.lst ds] = some ds := rfl
theorem it_seqM {ds : List D} : iterD .seq [.mls ds] = some ds := rfl
theorem it_seqT {ds : List D} : iterD .seq [.tup ds] = some ds := rfl
theorem pairs_map {α β : Type} {f : α → D} {g : β → D} {xs : List α} {ys : List β} : pairsD (xs.map f) (ys.map g) = (xs.zip ys).map fun p => .tup [f p.1, g p.2] := by
  unfold pairsD
  rw [List.zipWith_map, List.zip, List.map_zipWith]
theorem it_zipT {α β : Type} {f : α → D} {g : β → D} {xs : List α} {ys : List β} (h : stills (xs.map f) = true) (k : stills (ys.map g) = true) : iterD .zip [.tup (xs.map f), .tup (ys.map g)] = some ((xs.zip ys).map fun p => .tup [f p.1, g p.2]) := by
  show (if _ ∧ _ then some _ else none) = _
  rw [if_pos ⟨h, k⟩, pairs_map]
theorem it_zipTL {α β : Type} {f : α → D} {g : β → D} {xs : List α} {ys : List β} (h : stills (xs.map f) = true) (k : stills (ys.map g) = true) : iterD .zip [.tup (xs.map f), .lst (ys.map g)] = some ((xs.zip ys).map fun p => .tup [f p.1, g p.2]) := by
  show (if stills (xs.map f) = true ∧ stills (ys.map g) = true then some (pairsD (xs.map f) (ys.map g)) else none) = _
  rw [if_pos ⟨h, k⟩, pairs_map]
theorem it_zipL {α β : Type} {f : α → D} {g : β → D} {xs : List α} {ys : List β} (h : stills (xs.map f) = true) (k : stills (ys.map g) = true) : iterD .zip [.lst (xs.map f), .lst (ys.map g)] = some ((xs.zip ys).map fun p => .tup [f p.1, g p.2]) := by
  show (if _ ∧ _ then some _ else none) = _
  rw [if_pos ⟨h, k⟩, pairs_map]
theorem enum_map {α : Type} {f : α → D} : ∀ (xs : List α) (n : Nat), enumFrom n (xs.map f) = (xs.zipIdx n).map fun p => .tup [.int (p.2 : Nat), f p.1]
  | [], _ => rfl
  | x :: xs, n => by rw [List.map_cons, enumFrom, List.zipIdx_cons, List.map_cons, enum_map xs (n + 1)]
theorem it_enumT {α : Type} {f : α → D} {xs : List α} (h : stills (xs.map f) = true) : iterD .enum [.tup (xs.map f)] = some (xs.zipIdx.map fun p => .tup [.int (p.2 : Nat), f p.1]) := by
  show (if _ then some _ else none) = _
  rw [if_pos h, enum_map]
theorem it_enumL {α : Type} {f : α → D} {xs : List α} (h : stills (xs.map f) = true) : iterD .enum [.lst (xs.map f)] = some (xs.zipIdx.map fun p => .tup [.int (p.2 : Nat), f p.1]) := by
  show (if _ then some _ else none) = _
  rw [if_pos h, enum_map]
/-! ### equal things -/
structure EncP {α : Type} [DecidableEq α] (p : α → PyData) (n : Nat) (ok : α → Prop) : Prop where
  lay : ∀ x, ok x → (p x).canLay0 = true
  dep : ∀ x, ok x → (p x).depth ≤ n
  eqv : ∀ x y, PyData.eqv (p x) (p y) = decide (x = y)
theorem EncP.int : EncP PyData.int 0 fun _ => True := ⟨fun _ _ => rfl, fun _ _ => Nat.le_refl _, fun x y => by rw [PyData.eqv]; rfl⟩
theorem EncP.str : EncP PyData.str 0 fun s => PyData.strOk s = true := ⟨fun _ h => h, fun _ _ => Nat.le_refl _, fun x y => by rw [PyData.eqv]; rfl⟩
section
variable {α : Type} [DecidableEq α] {p : α → PyData} {n : Nat} {ok : α → Prop}
theorem EncP.layAll (E : EncP p n ok) : ∀ xs : List α, (∀ x ∈ xs, ok x) → PyData.canLayAll0 (xs.map p) = true
  | [], _ => rfl
  | x :: xs, h => by rw [List.map_cons, PyData.canLayAll0, E.lay x (h x List.mem_cons_self), E.layAll xs fun y hy => h y (List.mem_cons_of_mem _ hy)]; rfl
theorem EncP.depAll (E : EncP p n ok) : ∀ xs : List α, (∀ x ∈ xs, ok x) → PyData.depthAll (xs.map p) ≤ n
  | [], _ => by rw [List.map_nil, PyData.depthAll]; exact Nat.zero_le _
  | x :: xs, h => by
    rw [List.map_cons, PyData.depthAll]
    exact Nat.max_le.mpr ⟨E.dep x (h x List.mem_cons_self), E.depAll xs fun y hy => h y (List.mem_cons_of_mem _ hy)⟩
theorem EncP.eqvAll (E : EncP p n ok) : ∀ xs ys : List α, PyData.eqvAll (xs.map p) (ys.map p) = decide (xs = ys)
  | [], [] => by simp [PyData.eqvAll]
  | [], _ :: _ => by simp [PyData.eqvAll]
  | _ :: _, [] => by simp [PyData.eqvAll]
  | x :: xs, y :: ys => by
    rw [List.map_cons, List.map_cons, PyData.eqvAll, E.eqv, E.eqvAll xs ys]
    simp
theorem EncP.list (E : EncP p n ok) : EncP (fun xs : List α => PyData.list (xs.map p)) (n + 1) fun xs => ∀ x ∈ xs, ok x :=
  ⟨fun xs h => by rw [PyData.canLay0]; exact E.layAll xs h, fun xs h => by rw [PyData.depth]; have := E.depAll xs h; omega, fun xs ys => by rw [PyData.eqv]; exact E.eqvAll xs ys⟩
theorem EncP.tuple (E : EncP p n ok) : EncP (fun xs : List α => PyData.tuple (xs.map p)) (n + 1) fun xs => ∀ x ∈ xs, ok x :=
  ⟨fun xs h => by rw [PyData.canLay0]; exact E.layAll xs h, fun xs h => by rw [PyData.depth]; have := E.depAll xs h; omega, fun xs ys => by rw [PyData.eqv]; exact E.eqvAll xs ys⟩
theorem EncP.pair {β : Type} [DecidableEq β] {q : β → PyData} {m : Nat} {ok' : β → Prop} (E : EncP p n ok) (E' : EncP q m ok') : EncP (fun z : α × β => PyData.tuple [p z.1, q z.2]) (n + m + 1) fun z => ok z.1 ∧ ok' z.2 :=
  ⟨fun z h => by rw [PyData.canLay0, PyData.canLayAll0, PyData.canLayAll0, PyData.canLayAll0, E.lay _ h.1, E'.lay _ h.2]; rfl,
   fun z h => by
    rw [PyData.depth, PyData.depthAll, PyData.depthAll, PyData.depthAll]
    have := E.dep _ h.1
    have := E'.dep _ h.2
    omega,
   fun z w => by
    rw [PyData.eqv, PyData.eqvAll, PyData.eqvAll, PyData.eqvAll, E.eqv, E'.eqv]
    obtain ⟨a, b⟩ := z
    obtain ⟨c, d⟩ := w
    simp⟩
theorem eqD_enc {a b : D} {x y : α} (E : EncP p n ok) (ha : toPy a = some (p x)) (hb : toPy b = some (p y)) (hn : n ≤ 64) (ox : ok x) (oy : ok y) : eqD a b = some (decide (x = y)) := by
  unfold eqD
  rw [ha, hb]
  have sh : ∀ z, ok z → shaped (p z) = true := fun z h => by
    unfold shaped SeqAt.shaped
    rw [E.lay z h, decide_eq_true (Nat.le_trans (E.dep z h) hn)]; rfl
  dsimp only
  rw [if_pos ⟨sh x ox, sh y oy⟩, E.eqv]
theorem op_eq {a b : D} {x y : α} (E : EncP p n ok) (ha : toPy a = some (p x)) (hb : toPy b = some (p y)) (hn : n ≤ 64) (ox : ok x) (oy : ok y) : opD .eq [a, b] = some (.bl (decide (x = y))) := by
  show (eqD a b).map D.bl = _
  rw [eqD_enc E ha hb hn ox oy]; rfl
theorem op_ne {a b : D} {x y : α} (E : EncP p n ok) (ha : toPy a = some (p x)) (hb : toPy b = some (p y)) (hn : n ≤ 64) (ox : ok x) (oy : ok y) : opD .ne [a, b] = some (.bl (!decide (x = y))) := by
  show (eqD a b).map (fun c => D.bl (!c)) = _
  rw [eqD_enc E ha hb hn ox oy]; rfl
theorem toPys_map {f : α → D} (h : ∀ x, toPy (f x) = some (p x)) : ∀ xs : List α, toPys (xs.map f) = some (xs.map p)
  | [] => by rw [List.map_nil, toPys]; rfl
  | x :: xs => by rw [List.map_cons, toPys, h, toPys_map h xs]; rfl
theorem toPy_lst {f : α → D} (h : ∀ x, toPy (f x) = some (p x)) (xs : List α) : toPy (.lst (xs.map f)) = some (.list (xs.map p)) := by rw [toPy, toPys_map h]; rfl
theorem toPy_mls {f : α → D} (h : ∀ x, toPy (f x) = some (p x)) (xs : List α) : toPy (.mls (xs.map f)) = some (.list (xs.map p)) := by rw [toPy, toPys_map h]; rfl
theorem toPy_tup {f : α → D} (h : ∀ x, toPy (f x) = some (p x)) (xs : List α) : toPy (.tup (xs.map f)) = some (.tuple (xs.map p)) := by rw [toPy, toPys_map h]; rfl
theorem toPy_int (x : Int) : toPy (.int x) = some (.int x) := by rw [toPy]
theorem toPy_str (x : Str) : toPy (.str x) = some (.str x) := by rw [toPy]
end
theorem op_eqI {i j : Int} : opD .eq [.int i, .int j] = some (.bl (decide (i = j))) := op_eq EncP.int (toPy_int i) (toPy_int j) (by decide) trivial trivial
theorem op_neI {i j : Int} : opD .ne [.int i, .int j] = some (.bl (!decide (i = j))) := op_ne EncP.int (toPy_int i) (toPy_int j) (by decide) trivial trivial
theorem op_eqS {i j : Str} (h : PyData.strOk i = true) (k : PyData.strOk j = true) : opD .eq [.str i, .str j] = some (.bl (decide (i = j))) := op_eq EncP.str (toPy_str i) (toPy_str j) (by decide) h k
/-- tuples of ints, lists of such, lists of ints -/
@[reducible] def tupI (xs : List Int) : D := .tup (xs.map .int)
def pyT (xs : List Int) : PyData := .tuple (xs.map .int)
theorem enc_tupI : EncP pyT 1 fun _ => True := ⟨fun xs _ => EncP.int.tuple.lay xs fun _ _ => trivial, fun xs _ => EncP.int.tuple.dep xs fun _ _ => trivial, EncP.int.tuple.eqv⟩
theorem toPy_tupI (xs : List Int) : toPy (tupI xs) = some (pyT xs) := toPy_tup toPy_int xs
theorem op_eqTL {xs ys : List (List Int)} : opD .eq [.lst (xs.map tupI), .lst (ys.map tupI)] = some (.bl (decide (xs = ys))) := op_eq enc_tupI.list (toPy_lst toPy_tupI xs) (toPy_lst toPy_tupI ys) (by decide) (fun _ _ => trivial) fun _ _ => trivial
theorem op_neTL {xs ys : List (List Int)} : opD .ne [.lst (xs.map tupI), .lst (ys.map tupI)] = some (.bl (!decide (xs = ys))) := op_ne enc_tupI.list (toPy_lst toPy_tupI xs) (toPy_lst toPy_tupI ys) (by decide) (fun _ _ => trivial) fun _ _ => trivial
theorem op_eqTM {xs ys : List (List Int)} : opD .eq [.mls (xs.map tupI), .mls (ys.map tupI)] = some (.bl (decide (xs = ys))) := op_eq enc_tupI.list (toPy_mls toPy_tupI xs) (toPy_mls toPy_tupI ys) (by decide) (fun _ _ => trivial) fun _ _ => trivial
theorem op_eqLM {xs ys : List (List Int)} : opD .eq [.lst (xs.map tupI), .mls (ys.map tupI)] = some (.bl (decide (xs = ys))) := op_eq enc_tupI.list (toPy_lst toPy_tupI xs) (toPy_mls toPy_tupI ys) (by decide) (fun _ _ => trivial) fun _ _ => trivial
theorem eq0_int {i : Int} : ∀ xs : List Int, ((xs.map D.int).any fun y => eq0 y (.int i)) = decide (i ∈ xs)
  | [] => by simp
  | x :: xs => by
    rw [List.map_cons, List.any_cons, eq0_int xs]
    show ((x == i) || decide (i ∈ xs)) = _
    by_cases q : x = i
    · subst q; simp
    · have : ¬ i = x := fun e => q e.symm
      simp [q, this]
theorem flat0_ints : ∀ xs : List Int, (xs.map D.int).all flat0 = true
  | [] => rfl
  | x :: xs => by rw [List.map_cons, List.all_cons, flat0_ints xs]; rfl
theorem op_inL {i : Int} {xs : List Int} : opD .isin [.int i, .lst (xs.map .int)] = some (.bl (decide (i ∈ xs))) := by
  show (inD (.int i) (.lst (xs.map .int))).map D.bl = _
  unfold inD
  have : (flat0 (.int i) && ((itemsOf (.lst (xs.map .int))).getD []).all flat0) = true := flat0_ints xs
  dsimp only
  rw [if_pos this]
  show some (D.bl ((xs.map D.int).any fun y => eq0 y (.int i))) = _
  rw [eq0_int]
/-! ### natural numbers -/
@[reducible] def natD (n : Nat) : D := .int (n : Int)
@[reducible] def tupN (xs : List Nat) : D := .tup (xs.map natD)
def pyN (n : Nat) : PyData := .int (n : Int)
def pyTN (xs : List Nat) : PyData := .tuple (xs.map pyN)
theorem EncP.nat : EncP pyN 0 fun _ => True := ⟨fun _ _ => rfl, fun _ _ => Nat.le_refl _, fun x y => by
  unfold pyN
  rw [PyData.eqv]
  have : ((x : Int) == (y : Int)) = decide ((x : Int) = (y : Int)) := rfl
  rw [this]
  exact decide_eq_decide.mpr Int.ofNat_inj⟩
theorem toPy_nat (x : Nat) : toPy (natD x) = some (pyN x) := toPy_int _
theorem enc_tupN : EncP pyTN 1 fun _ => True := ⟨fun xs _ => EncP.nat.tuple.lay xs fun _ _ => trivial, fun xs _ => EncP.nat.tuple.dep xs fun _ _ => trivial, EncP.nat.tuple.eqv⟩
theorem toPy_tupN (xs : List Nat) : toPy (tupN xs) = some (pyTN xs) := toPy_tup toPy_nat xs
theorem op_eqN {i j : Nat} : opD .eq [natD i, natD j] = some (.bl (decide (i = j))) := op_eq EncP.nat (toPy_nat i) (toPy_nat j) (by decide) trivial trivial
section
variable {xs ys : List (List Nat)}
theorem op_eqNLL : opD .eq [.lst (xs.map tupN), .lst (ys.map tupN)] = some (.bl (decide (xs = ys))) := op_eq enc_tupN.list (toPy_lst toPy_tupN xs) (toPy_lst toPy_tupN ys) (by decide) (fun _ _ => trivial) fun _ _ => trivial
theorem op_neNLL : opD .ne [.lst (xs.map tupN), .lst (ys.map tupN)] = some (.bl (!decide (xs = ys))) := op_ne enc_tupN.list (toPy_lst toPy_tupN xs) (toPy_lst toPy_tupN ys) (by decide) (fun _ _ => trivial) fun _ _ => trivial
theorem op_eqNMM : opD .eq [.mls (xs.map tupN), .mls (ys.map tupN)] = some (.bl (decide (xs = ys))) := op_eq enc_tupN.list (toPy_mls toPy_tupN xs) (toPy_mls toPy_tupN ys) (by decide) (fun _ _ => trivial) fun _ _ => trivial
theorem op_eqNLM : opD .eq [.lst (xs.map tupN), .mls (ys.map tupN)] = some (.bl (decide (xs = ys))) := op_eq enc_tupN.list (toPy_lst toPy_tupN xs) (toPy_mls toPy_tupN ys) (by decide) (fun _ _ => trivial) fun _ _ => trivial
theorem op_eqNT {a b : List Nat} : opD .eq [tupN a, tupN b] = some (.bl (decide (a = b))) := op_eq enc_tupN (toPy_tupN a) (toPy_tupN b) (by decide) trivial trivial
theorem op_neNT {a b : List Nat} : opD .ne [tupN a, tupN b] = some (.bl (!decide (a = b))) := op_ne enc_tupN (toPy_tupN a) (toPy_tupN b) (by decide) trivial trivial
end
theorem map_natD {xs : List Nat} : xs.map natD = (xs.map fun n : Nat => (n : Int)).map D.int := by rw [List.map_map]; rfl
theorem op_inN {i : Nat} {xs : List Nat} : opD .isin [natD i, .lst (xs.map natD)] = some (.bl (decide (i ∈ xs))) := by
  rw [map_natD]
  refine (op_inL).trans ?_
  congr 2
  refine decide_eq_decide.mpr ?_
  simp [List.mem_map]
  constructor
  · rintro ⟨a, h, e⟩; have : a = i := by omega
    rw [← this]; exact h
  · exact fun h => ⟨i, h, rfl⟩
@[simp] theorem still_tupN {xs : List Nat} : still (tupN xs) = true := by unfold tupN; rw [still_tup]; exact stills_map (fun _ => rfl) xs
@[simp] theorem still_tupI {xs : List Int} : still (tupI xs) = true := by unfold tupI; rw [still_tup]; exact stills_map (fun _ => rfl) xs
@[simp] theorem stills_mapS {α : Type} {f : α → D} (h : ∀ x, still (f x) = true) (xs : List α) : stills (xs.map f) = true := stills_map h xs
theorem band_nat {a b : Nat} : Builtin.bitAnd (a : Int) (b : Int) = ((a &&& b : Nat) : Int) := PySem.W.os_band a b
theorem still_tup' {ds : List D} (h : stills ds = true) : still (.tup ds) = true := by rw [still_tup]; exact h
theorem still_lst' {ds : List D} (h : stills ds = true) : still (.lst ds) = true := by rw [still_lst]; exact h
theorem still_ins' {c : Nat} {ns : List Str} {ds : List D} (h : stills ds = true) : still (.ins c ns ds) = true := by rw [still_ins]; exact h
theorem stills_cons' {d : D} {ds : List D} (h : still d = true) (k : stills ds = true) : stills (d :: ds) = true := by rw [stills_cons, h, k]; rfl
theorem stills_app' {a b : List D} (h : stills a = true) (k : stills b = true) : stills (a ++ b) = true := by rw [stills_append, h, k]; rfl
theorem stills_take' {a : List D} {n : Nat} (h : stills a = true) : stills (a.take n) = true := by
  rw [stills_all] at h ⊢
  exact List.all_eq_true.mpr fun d hd => List.all_eq_true.mp h d (List.mem_of_mem_take hd)
theorem stills_drop' {a : List D} {n : Nat} (h : stills a = true) : stills (a.drop n) = true := by
  rw [stills_all] at h ⊢
  exact List.all_eq_true.mpr fun d hd => List.all_eq_true.mp h d (List.mem_of_mem_drop hd)
theorem place_still {b : Bool} {d : D} (h : still d = true) : (b && !still d) = false := by rw [h]; cases b <;> rfl
theorem or_still {b : Bool} {d : D} (h : still d = true) : (b || still d) = true := by rw [h]; cases b <;> rfl
theorem or_stills {b : Bool} {d : List D} (h : stills d = true) : (b || stills d) = true := by rw [h]; cases b <;> rfl
theorem emod_side {a s : Int} (h : 1 ≤ s ∧ s ≤ 1000) : 0 ≤ a % s ∧ a % s ≤ 100000 := by
  have h1 := Int.emod_nonneg a (show s ≠ 0 by omega)
  have h2 := Int.emod_lt_of_pos a (show 0 < s by omega)
  omega
theorem emod_side0 {a s : Int} (h : 0 < s) : 0 ≤ a % s := Int.emod_nonneg a (by omega)
theorem list_cons_eq {α : Type} {a b : α} {as bs : List α} (h : a = b) (t : as = bs) : a :: as = b :: bs := by rw [h, t]
theorem acc_snoc {α β : Type} {enc : β → D} {f : α → β} {pre : List α} {x : α} {v : D} (h : v = enc (f x)) : some (D.mls ((pre.map f).map enc ++ [v])) = some (D.mls (((pre ++ [x]).map f).map enc)) := by rw [h]; simp
theorem acc_snoc1 {β : Type} {enc : β → D} {pre : List β} {x : β} {v : D} (h : v = enc x) : some (D.mls (pre.map enc ++ [v])) = some (D.mls ((pre ++ [x]).map enc)) := by rw [h]; simp
theorem op_eqSL {a b : Str} (h : PyData.strOk a = true) (k : PyData.strOk b = true) : opD .eq [.str a, .str b] = some (.bl (decide (a = b))) := op_eqS h k
theorem op_strN {n : Nat} (h : n ≤ 1000000) : opD .str [.int (n : Int)] = some (.str (toString (n : Int))) := by
  refine if_pos (decide_eq_true ?_)
  rw [Int.natAbs_natCast]
  by_cases q : n = 0
  · subst q; decide
  · exact Nat.lt_of_lt_of_le ((Nat.log2_lt q).mpr (show n < 2 ^ 20 from Nat.lt_of_le_of_lt h (by decide))) (by decide)
theorem ixD_map {α : Type} {enc : α → D} {xs : List α} {k : Int} (h0 : 0 ≤ k) (h1 : k < xs.length) : ixD (xs.map enc).length k = some k.toNat := ixD_nat h0 (by rw [List.length_map]; exact h1)
theorem op_inN0 {xs : List Nat} : opD .isin [.int 0, .lst (xs.map natD)] = some (.bl (decide (0 ∈ xs))) := op_inN (i := 0)
end Pd

namespace U
open PySem Pd
set_option maxRecDepth 100000
def excL : List (Nat × Nat) := [(0, 0), (1, 1), (2, 2), (3, 3), (4, 4), (5, 5), (6, 6), (7, 7), (8, 8), (9, 9), (10, 10), (11, 11), (12, 12), (13, 13), (14, 14), (1, 0), (2, 0), (3, 0), (4, 0), (5, 0), (6, 0), (7, 0), (8, 0), (9, 0), (10, 0), (11, 0), (12, 0), (13, 0), (14, 0), (0, 999), (1, 999), (2, 999), (3, 999), (4, 999), (5, 999), (6, 999), (7, 999), (8, 999), (9, 999), (10, 999), (11, 999), (12, 999), (13, 999), (14, 999)]
def subT (a b : Nat) : Bool := excL.contains (a, b)
def T_law_cell : Tab := { fns := [], cls := [], gls := [], flds := [], sub := subT }
def b_law_cell : List S :=
  [.ifs (.op .lt [(.var 1), (.op .len [(.var 0)])]) [.ret (.op .int [(.ix (.var 0) (.var 1))])] [],
   .ret (.int 0)]
@[irreducible] def F_law_cell : List D → RF := runF T_law_cell 2 2 [] b_law_cell
def fd_law_cell : Fd := ⟨"_law_cell", [], F_law_cell⟩
theorem fe_law_cell : fd_law_cell = ⟨"_law_cell", [], runF T_law_cell 2 2 [] b_law_cell⟩ := by unfold fd_law_cell F_law_cell; rfl
def T_law_mix : Tab := { fns := [], cls := [], gls := [], flds := [], sub := subT }
def b_law_mix : List S :=
  [.asg (.var 2) (.op .mod [(.op .int [(.op .add [(.op .add [(.op .mul [(.var 0), (.int 48271)]), (.op .mul [(.var 1), (.int 69621)])]), (.int 12345)])]), (.int 2147483647)]),
   .asg (.var 2) (.op .mod [(.op .int [(.op .add [(.op .add [(.op .mul [(.var 2), (.int 16807)]), (.op .mul [(.var 1), (.int 40692)])]), (.int 777)])]), (.int 2147483629)]),
   .ret (.op .fdiv [(.var 2), (.int 997)])]
@[irreducible] def F_law_mix : List D → RF := runF T_law_mix 2 3 [] b_law_mix
def fd_law_mix : Fd := ⟨"_law_mix", [], F_law_mix⟩
theorem fe_law_mix : fd_law_mix = ⟨"_law_mix", [], runF T_law_mix 2 3 [] b_law_mix⟩ := by unfold fd_law_mix F_law_mix; rfl
def T_law_mask : Tab := { fns := [], cls := [], gls := [], flds := [], sub := subT }
def b_law_mask : List S :=
  [.ret (.op .add [(.int 1), (.op .mod [(.var 0), (.op .sub [(.op .shl [(.int 1), (.var 1)]), (.int 1)])])])]
@[irreducible] def F_law_mask : List D → RF := runF T_law_mask 2 2 [] b_law_mask
def fd_law_mask : Fd := ⟨"_law_mask", [], F_law_mask⟩
theorem fe_law_mask : fd_law_mask = ⟨"_law_mask", [], runF T_law_mask 2 2 [] b_law_mask⟩ := by unfold fd_law_mask F_law_mask; rfl
def T_law_deed : Tab := { fns := [fd_law_mix, fd_law_mask], cls := [], gls := [], flds := [], sub := subT }
def b_law_deed : List S :=
  [.asg (.var 3) (.op .len [(.var 1)]),
   .asg (.var 4) (.lst []),
   .asg (.var 5) (.lst []),
   .fors (.var 6) .rng1 [(.var 3)] [.ifs (.op .lt [(.op .mod [(.call .fn 0 [(.var 0), (.op .mul [(.int 4), (.var 6)])]), (.int 5)]), (.int 2)]) [.app 4 (.tup [(.var 6), (.call .fn 1 [(.call .fn 0 [(.var 0), (.op .add [(.op .mul [(.int 4), (.var 6)]), (.int 1)])]), (.ix (.var 1) (.var 6))])])] [],
   .asg (.var 7) (.op .mod [(.call .fn 0 [(.var 0), (.op .add [(.op .mul [(.int 4), (.var 6)]), (.int 2)])]), (.int 6)]),
   .asg (.var 8) (.op .mod [(.call .fn 0 [(.var 0), (.op .add [(.op .mul [(.int 4), (.var 6)]), (.int 3)])]), (.var 3)]),
   .ifs (.op .lt [(.var 7), (.int 2)]) [.app 5 (.tup [(.var 6), (.tup [(.str "set"), (.op .mod [(.call .fn 0 [(.var 0), (.op .add [(.op .mul [(.int 4), (.var 6)]), (.int 3)])]), (.ix (.var 1) (.var 6))])])])] [.ifs (.and (.op .eq [(.var 7), (.int 2)]) (.op .le [(.ix (.var 1) (.var 8)), (.ix (.var 1) (.var 6))])) [.app 5 (.tup [(.var 6), (.tup [(.str "copy"), (.var 8)])])] []]],
   .ret (.tup [(.op .add [(.str "m"), (.op .str [(.var 2)])]), (.op .tuple [(.var 4)]), (.op .tuple [(.var 5)])])]
@[irreducible] def F_law_deed : List D → RF := runF T_law_deed 3 9 [] b_law_deed
def fd_law_deed : Fd := ⟨"_law_deed", [], F_law_deed⟩
theorem fe_law_deed : fd_law_deed = ⟨"_law_deed", [], runF T_law_deed 3 9 [] b_law_deed⟩ := by unfold fd_law_deed F_law_deed; rfl
def T_law_parts : Tab := { fns := [fd_law_cell, fd_law_mix, fd_law_deed, fd_law_mask], cls := [], gls := [], flds := [], sub := subT }
def b_law_parts : List S :=
  [.asg (.var 3) (.op .add [(.int 1), (.op .mod [(.call .fn 0 [(.var 0), (.var 1)]), (.int 4)])]),
   .asg (.var 4) (.fz (.comp (.op .add [(.int 1), (.op .mod [(.call .fn 1 [(.call .fn 0 [(.var 0), (.var 1)]), (.var 7)]), (.int 3)])]) (.var 7) .rng1 [(.var 3)] [] [7])),
   .asg (.var 5) (.fz (.comp (.tup [(.ix (.str "abcd") (.var 7)), (.ix (.var 4) (.var 7))]) (.var 7) .rng1 [(.var 3)] [] [7])),
   .asg (.var 6) (.lst []),
   .fors (.var 7) .rng1 [(.op .mod [(.call .fn 0 [(.var 0), (.op .add [(.var 1), (.int 1)])]), (.op .add [(.var 2), (.int 1)])])] [.app 6 (.call .fn 2 [(.call .fn 0 [(.var 0), (.op .add [(.op .add [(.var 1), (.int 2)]), (.var 7)])]), (.var 4), (.var 7)])],
   .asg (.var 8) (.lst []),
   .fors (.var 7) .rng1 [(.var 3)] [.asg (.var 9) (.call .fn 3 [(.call .fn 1 [(.call .fn 0 [(.var 0), (.op .add [(.var 1), (.int 1)])]), (.var 7)]), (.ix (.var 4) (.var 7))]),
   .ifs (.op .eq [(.op .mod [(.op .fdiv [(.call .fn 0 [(.var 0), (.op .add [(.var 1), (.int 1)])]), (.int 64)]), (.int 2)]), (.int 1)]) [.asg (.var 9) (.op .shl [(.int 1), (.op .mod [(.call .fn 1 [(.call .fn 0 [(.var 0), (.op .add [(.var 1), (.int 1)])]), (.var 7)]), (.ix (.var 4) (.var 7))])])] [],
   .app 8 (.var 9)],
   .ret (.fz (.tup [(.var 5), (.mov 6), (.op .tuple [(.var 8)])]))]
@[irreducible] def F_law_parts : List D → RF := runF T_law_parts 3 10 [] b_law_parts
def fd_law_parts : Fd := ⟨"_law_parts", [], F_law_parts⟩
theorem fe_law_parts : fd_law_parts = ⟨"_law_parts", [], runF T_law_parts 3 10 [] b_law_parts⟩ := by unfold fd_law_parts F_law_parts; rfl
def T_Machine_full : Tab := { fns := [], cls := [], gls := [], flds := [(15, "cells")], sub := subT }
def b_Machine_full : List S :=
  [.ret (.op .tuple [(.comp (.op .sub [(.op .shl [(.int 1), (.var 2)]), (.int 1)]) (.tup [(.var 1), (.var 2)]) .seq [(.fld (.var 0) "cells")] [] [1, 2])])]
@[irreducible] def F_Machine_full : List D → RF := runF T_Machine_full 1 3 [] b_Machine_full
def fd_Machine_full : Fd := ⟨"full", [], F_Machine_full⟩
theorem fe_Machine_full : fd_Machine_full = ⟨"full", [], runF T_Machine_full 1 3 [] b_Machine_full⟩ := by unfold fd_Machine_full F_Machine_full; rfl
def T_is_name : Tab := { fns := [], cls := [], gls := [.int 12, .str "abcdefghijklmnopqrstuvwxyz", .str "0123456789"], flds := [], sub := subT }
def b_is_name : List S :=
  [.ifs (.or (.op .eq [(.op .len [(.var 0)]), (.int 0)]) (.or (.op .gt [(.op .len [(.var 0)]), (.glob 0)]) (.op .notin [(.ix (.var 0) (.int 0)), (.glob 1)]))) [.ret (.bl false)] [],
   .ret (.op .all [(.comp (.or (.op .isin [(.var 1), (.glob 1)]) (.op .isin [(.var 1), (.glob 2)])) (.var 1) .seq [(.var 0)] [] [1])])]
@[irreducible] def F_is_name : List D → RF := runF T_is_name 1 2 [] b_is_name
def fd_is_name : Fd := ⟨"is_name", [], F_is_name⟩
theorem fe_is_name : fd_is_name = ⟨"is_name", [], runF T_is_name 1 2 [] b_is_name⟩ := by unfold fd_is_name F_is_name; rfl
def T_check_names : Tab := { fns := [fd_is_name], cls := [], gls := [], flds := [], sub := subT }
def b_check_names : List S :=
  [.ifs (.or (.not (.op .all [(.comp (.call .fn 0 [(.var 1)]) (.var 1) .seq [(.var 0)] [] [1])])) (.op .ne [(.op .lenset [(.var 0)]), (.op .len [(.var 0)])])) [.raise 1 none] []]
@[irreducible] def F_check_names : List D → RF := runF T_check_names 1 2 [] b_check_names
def fd_check_names : Fd := ⟨"_check_names", [], F_check_names⟩
theorem fe_check_names : fd_check_names = ⟨"_check_names", [], runF T_check_names 1 2 [] b_check_names⟩ := by unfold fd_check_names F_check_names; rfl
def T_check_order : Tab := { fns := [], cls := [], gls := [], flds := [], sub := subT }
def b_check_order : List S :=
  [.asg (.var 2) (.op .neg [(.int 1)]),
   .fors (.tup [(.var 3), (.var 4)]) .seq [(.var 0)] [.ifs (.or (.op .le [(.var 3), (.var 2)]) (.op .ge [(.var 3), (.var 1)])) [.raise 1 none] [],
   .asg (.var 2) (.var 3)]]
@[irreducible] def F_check_order : List D → RF := runF T_check_order 2 5 [] b_check_order
def fd_check_order : Fd := ⟨"_check_order", [], F_check_order⟩
theorem fe_check_order : fd_check_order = ⟨"_check_order", [], runF T_check_order 2 5 [] b_check_order⟩ := by unfold fd_check_order F_check_order; rfl
def T_is_mask : Tab := { fns := [], cls := [], gls := [], flds := [], sub := subT }
def b_is_mask : List S :=
  [.ret (.chain .lt .lt [(.int 0), (.var 0), (.op .shl [(.int 1), (.var 1)])])]
@[irreducible] def F_is_mask : List D → RF := runF T_is_mask 2 2 [] b_is_mask
def fd_is_mask : Fd := ⟨"is_mask", [], F_is_mask⟩
theorem fe_is_mask : fd_is_mask = ⟨"is_mask", [], runF T_is_mask 2 2 [] b_is_mask⟩ := by unfold fd_is_mask F_is_mask; rfl
def T_Machine_check_deed : Tab := { fns := [fd_is_mask], cls := [], gls := [], flds := [], sub := subT }
def b_Machine_check_deed : List S :=
  [.fors (.tup [(.var 4), (.var 5)]) .seq [(.var 2)] [.ifs (.not (.call .fn 0 [(.var 5), (.ix (.var 1) (.var 4))])) [.raise 1 none] []],
   .fors (.tup [(.var 4), (.tup [(.var 6), (.var 7)])]) .seq [(.var 3)] [.ifs (.and (.op .eq [(.var 6), (.str "set")]) (.chain .le .lt [(.int 0), (.var 7), (.ix (.var 1) (.var 4))])) [.cnt] [],
   .ifs (.or (.op .ne [(.var 6), (.str "copy")]) (.or (.op .lt [(.var 7), (.int 0)]) (.or (.op .ge [(.var 7), (.op .len [(.var 1)])]) (.op .gt [(.ix (.var 1) (.var 7)), (.ix (.var 1) (.var 4))])))) [.raise 1 none] []]]
@[irreducible] def F_Machine_check_deed : List D → RF := runF T_Machine_check_deed 4 8 [] b_Machine_check_deed
def fd_Machine_check_deed : Fd := ⟨"_check_deed", [], F_Machine_check_deed⟩
theorem fe_Machine_check_deed : fd_Machine_check_deed = ⟨"_check_deed", [], runF T_Machine_check_deed 4 8 [] b_Machine_check_deed⟩ := by unfold fd_Machine_check_deed F_Machine_check_deed; rfl
def T_Machine_init : Tab := { fns := [fd_check_names, fd_check_order, fd_Machine_check_deed, fd_is_mask], cls := [], gls := [.int 24, .int 400, .int 16], flds := [(15, "cells"), (15, "deeds"), (15, "first")], sub := subT }
def b_Machine_init : List S :=
  [.ifs (.or (.op .lt [(.op .len [(.var 1)]), (.int 1)]) (.or (.op .gt [(.op .len [(.var 1)]), (.glob 0)]) (.op .gt [(.op .len [(.var 2)]), (.glob 1)]))) [.raise 1 none] [],
   .expr (.call .fn 0 [(.comp (.var 9) (.tup [(.var 9), (.var 5)]) .seq [(.var 1)] [] [9, 5])]),
   .asg (.var 4) (.fz (.comp (.var 8) (.tup [(.var 5), (.var 8)]) .seq [(.var 1)] [] [5, 8])),
   .ifs (.not (.op .all [(.comp (.chain .le .le [(.int 1), (.var 8), (.glob 2)]) (.var 8) .seq [(.var 4)] [] [8])])) [.raise 1 none] [],
   .expr (.call .fn 0 [(.comp (.ix (.var 10) (.int 0)) (.var 10) .seq [(.var 2)] [] [10])]),
   .fors (.tup [(.var 5), (.var 6), (.var 7)]) .seq [(.var 2)] [.expr (.call .fn 1 [(.var 6), (.op .len [(.var 1)])]),
   .expr (.call .fn 1 [(.var 7), (.op .len [(.var 1)])]),
   .expr (.call (.meth 15 "_check_deed") 2 [(.bor (.var 0)), (.var 4), (.var 6), (.var 7)])],
   .ifs (.or (.op .ne [(.op .len [(.var 3)]), (.op .len [(.var 1)])]) (.not (.op .all [(.comp (.call .fn 3 [(.var 11), (.var 8)]) (.tup [(.var 11), (.var 8)]) .zip [(.var 3), (.var 4)] [] [11, 8])]))) [.raise 1 none] [],
   .setfld 0 "cells" (.op .tuple [(.comp (.tup [(.var 9), (.var 8)]) (.tup [(.var 9), (.var 8)]) .seq [(.var 1)] [] [9, 8])]),
   .setfld 0 "deeds" (.op .tuple [(.comp (.tup [(.var 9), (.op .tuple [(.var 6)]), (.op .tuple [(.var 7)])]) (.tup [(.var 9), (.var 6), (.var 7)]) .seq [(.var 2)] [] [9, 6, 7])]),
   .setfld 0 "first" (.op .tuple [(.var 3)])]
@[irreducible] def F_Machine_init : List D → RF := runF T_Machine_init 4 12 [0] b_Machine_init
def fd_Machine_init : Fd := ⟨"__init__", [0], F_Machine_init⟩
theorem fe_Machine_init : fd_Machine_init = ⟨"__init__", [0], runF T_Machine_init 4 12 [0] b_Machine_init⟩ := by unfold fd_Machine_init F_Machine_init; rfl
def T_check_deed : Tab := { fns := [], cls := [], gls := [], flds := [(15, "deeds")], sub := subT }
def b_check_deed : List S :=
  [.ifs (.or (.op .lt [(.var 1), (.int 0)]) (.op .ge [(.var 1), (.op .len [(.fld (.var 0) "deeds")])])) [.raise 4 none] []]
@[irreducible] def F_check_deed : List D → RF := runF T_check_deed 2 2 [] b_check_deed
def fd_check_deed : Fd := ⟨"check_deed", [], F_check_deed⟩
theorem fe_check_deed : fd_check_deed = ⟨"check_deed", [], runF T_check_deed 2 2 [] b_check_deed⟩ := by unfold fd_check_deed F_check_deed; rfl
def T_law_can : Tab := { fns := [], cls := [], gls := [], flds := [], sub := subT }
def b_law_can : List S :=
  [.fors (.tup [(.var 3), (.var 4)]) .seq [(.ix (.ix (.var 0) (.var 2)) (.int 1))] [.ifs (.op .eq [(.op .band [(.op .shr [(.var 4), (.ix (.var 1) (.var 3))]), (.int 1)]), (.int 0)]) [.ret (.bl false)] []],
   .ret (.bl true)]
@[irreducible] def F_law_can : List D → RF := runF T_law_can 3 5 [] b_law_can
def fd_law_can : Fd := ⟨"_law_can", [], F_law_can⟩
theorem fe_law_can : fd_law_can = ⟨"_law_can", [], runF T_law_can 3 5 [] b_law_can⟩ := by unfold fd_law_can F_law_can; rfl
def T_law_after : Tab := { fns := [], cls := [], gls := [], flds := [], sub := subT }
def b_law_after : List S :=
  [.asg (.var 3) (.op .list [(.var 1)]),
   .fors (.tup [(.var 4), (.var 5)]) .seq [(.ix (.ix (.var 0) (.var 2)) (.int 2))] [.setix 3 [] (.var 4) (.ite (.op .eq [(.ix (.var 5) (.int 0)), (.str "set")]) (.ix (.var 5) (.int 1)) (.ix (.var 1) (.ix (.var 5) (.int 1))))],
   .ret (.op .tuple [(.var 3)])]
@[irreducible] def F_law_after : List D → RF := runF T_law_after 3 6 [] b_law_after
def fd_law_after : Fd := ⟨"_law_after", [], F_law_after⟩
theorem fe_law_after : fd_law_after = ⟨"_law_after", [], runF T_law_after 3 6 [] b_law_after⟩ := by unfold fd_law_after F_law_after; rfl
def T_law_disks : Tab := { fns := [], cls := [], gls := [], flds := [], sub := subT }
def b_law_disks : List S :=
  [.asg (.var 1) (.fz (.lst [(.tup [])])),
   .fors (.var 2) .seq [(.var 0)] [.asg (.var 3) (.lst []),
   .fors (.var 4) .seq [(.var 1)] [.fors (.var 5) .rng1 [(.int 16)] [.ifs (.op .eq [(.op .band [(.op .shr [(.var 2), (.var 5)]), (.int 1)]), (.int 1)]) [.app 3 (.op .add [(.var 4), (.tup [(.var 5)])])] []]],
   .asg (.var 1) (.frz 3)],
   .ret (.var 1)]
@[irreducible] def F_law_disks : List D → RF := runF T_law_disks 1 6 [] b_law_disks
def fd_law_disks : Fd := ⟨"_law_disks", [], F_law_disks⟩
theorem fe_law_disks : fd_law_disks = ⟨"_law_disks", [], runF T_law_disks 1 6 [] b_law_disks⟩ := by unfold fd_law_disks F_law_disks; rfl
def T_law_in : Tab := { fns := [], cls := [], gls := [], flds := [], sub := subT }
def b_law_in : List S :=
  [.fors (.tup [(.var 2), (.var 3)]) .zip [(.var 0), (.var 1)] [.ifs (.op .eq [(.op .band [(.op .shr [(.var 2), (.var 3)]), (.int 1)]), (.int 0)]) [.ret (.bl false)] []],
   .ret (.bl true)]
@[irreducible] def F_law_in : List D → RF := runF T_law_in 2 4 [] b_law_in
def fd_law_in : Fd := ⟨"_law_in", [], F_law_in⟩
theorem fe_law_in : fd_law_in = ⟨"_law_in", [], runF T_law_in 2 4 [] b_law_in⟩ := by unfold fd_law_in F_law_in; rfl
def T_law_sketch : Tab := { fns := [fd_law_mix, fd_law_mask], cls := [], gls := [], flds := [], sub := subT }
def b_law_sketch : List S :=
  [.asg (.var 2) (.lst []),
   .fors (.var 3) .rng1 [(.op .len [(.var 1)])] [.asg (.var 4) (.call .fn 0 [(.var 0), (.op .mul [(.int 3), (.var 3)])]),
   .asg (.var 5) (.call .fn 1 [(.var 4), (.ix (.var 1) (.var 3))]),
   .ifs (.op .eq [(.op .mod [(.op .fdiv [(.var 4), (.int 16)]), (.int 3)]), (.int 0)]) [.asg (.var 5) (.op .sub [(.op .shl [(.int 1), (.ix (.var 1) (.var 3))]), (.int 1)])] [],
   .ifs (.op .eq [(.op .mod [(.var 0), (.int 4)]), (.int 1)]) [.asg (.var 5) (.op .shl [(.int 1), (.op .mod [(.var 4), (.ix (.var 1) (.var 3))])])] [],
   .app 2 (.var 5)],
   .ret (.op .tuple [(.var 2)])]
@[irreducible] def F_law_sketch : List D → RF := runF T_law_sketch 2 6 [] b_law_sketch
def fd_law_sketch : Fd := ⟨"_law_sketch", [], F_law_sketch⟩
theorem fe_law_sketch : fd_law_sketch = ⟨"_law_sketch", [], runF T_law_sketch 2 6 [] b_law_sketch⟩ := by unfold fd_law_sketch F_law_sketch; rfl
def T_law_piece : Tab := { fns := [fd_law_sketch], cls := [], gls := [], flds := [], sub := subT }
def b_law_piece : List S :=
  [.ret (.fz (.comp (.call .fn 0 [(.op .add [(.op .fdiv [(.var 0), (.int 3)]), (.op .mul [(.int 1000), (.var 2)])]), (.var 1)]) (.var 2) .rng1 [(.ix (.tup [(.int 0), (.int 1), (.int 1), (.int 2)]) (.op .mod [(.var 0), (.int 4)]))] [] [2]))]
@[irreducible] def F_law_piece : List D → RF := runF T_law_piece 2 3 [] b_law_piece
def fd_law_piece : Fd := ⟨"_law_piece", [], F_law_piece⟩
theorem fe_law_piece : fd_law_piece = ⟨"_law_piece", [], runF T_law_piece 2 3 [] b_law_piece⟩ := by unfold fd_law_piece F_law_piece; rfl
def T_meet : Tab := { fns := [], cls := [], gls := [], flds := [], sub := subT }
def b_meet : List S :=
  [.asg (.var 2) (.lst []),
   .fors (.tup [(.var 3), (.var 4)]) .zip [(.var 0), (.var 1)] [.ifs (.op .eq [(.op .band [(.var 3), (.var 4)]), (.int 0)]) [.ret .non] [],
   .app 2 (.op .band [(.var 3), (.var 4)])],
   .ret (.op .tuple [(.var 2)])]
@[irreducible] def F_meet : List D → RF := runF T_meet 2 5 [] b_meet
def fd_meet : Fd := ⟨"meet", [], F_meet⟩
theorem fe_meet : fd_meet = ⟨"meet", [], runF T_meet 2 5 [] b_meet⟩ := by unfold fd_meet F_meet; rfl
def T_law_has : Tab := { fns := [fd_law_in], cls := [], gls := [], flds := [], sub := subT }
def b_law_has : List S :=
  [.fors (.var 2) .seq [(.var 0)] [.ifs (.call .fn 0 [(.var 2), (.var 1)]) [.ret (.bl true)] []],
   .ret (.bl false)]
@[irreducible] def F_law_has : List D → RF := runF T_law_has 2 3 [] b_law_has
def fd_law_has : Fd := ⟨"_law_has", [], F_law_has⟩
theorem fe_law_has : fd_law_has = ⟨"_law_has", [], runF T_law_has 2 3 [] b_law_has⟩ := by unfold fd_law_has F_law_has; rfl
def T_law_split : Tab := { fns := [], cls := [], gls := [], flds := [], sub := subT }
def b_law_split : List S :=
  [.asg (.var 2) (.fz (.comp (.op .band [(.var 5), (.var 6)]) (.tup [(.var 5), (.var 6)]) .zip [(.var 0), (.var 1)] [] [5, 6])),
   .ifs (.op .isin [(.int 0), (.var 2)]) [.ret (.fz (.lst [(.var 0)]))] [],
   .asg (.var 3) (.lst []),
   .fors (.var 4) .rng1 [(.op .len [(.var 0)])] [.ifs (.op .ne [(.ix (.var 0) (.var 4)), (.ix (.var 2) (.var 4))]) [.app 3 (.op .add [(.op .add [(.op .tuple [(.op (.sl false true) [(.var 2), (.var 4)])]), (.tup [(.op .sub [(.ix (.var 0) (.var 4)), (.ix (.var 2) (.var 4))])])]), (.op (.sl true false) [(.var 0), (.op .add [(.var 4), (.int 1)])])])] []],
   .ret (.fz (.mov 3))]
@[irreducible] def F_law_split : List D → RF := runF T_law_split 2 7 [] b_law_split
def fd_law_split : Fd := ⟨"_law_split", [], F_law_split⟩
theorem fe_law_split : fd_law_split = ⟨"_law_split", [], runF T_law_split 2 7 [] b_law_split⟩ := by unfold fd_law_split F_law_split; rfl
def T_split : Tab := { fns := [fd_meet], cls := [], gls := [], flds := [], sub := subT }
def b_split : List S :=
  [.asg (.var 2) (.call .fn 0 [(.var 0), (.var 1)]),
   .ifs (.op .isN [(.var 2)]) [.ret (.fz (.lst [(.var 0)]))] [],
   .asg (.var 3) (.lst []),
   .fors (.tup [(.var 4), (.var 5)]) .enum [(.var 0)] [.asg (.var 6) (.op .bxor [(.var 5), (.ix (.var 2) (.var 4))]),
   .ifs (.op .ne [(.var 6), (.int 0)]) [.app 3 (.fz (.op .add [(.op .add [(.op (.sl false true) [(.var 2), (.var 4)]), (.tup [(.var 6)])]), (.op (.sl true false) [(.var 0), (.op .add [(.var 4), (.int 1)])])]))] []],
   .ret (.fz (.mov 3))]
@[irreducible] def F_split : List D → RF := runF T_split 2 7 [] b_split
def fd_split : Fd := ⟨"_split", [], F_split⟩
theorem fe_split : fd_split = ⟨"_split", [], runF T_split 2 7 [] b_split⟩ := by unfold fd_split F_split; rfl
def T_without : Tab := { fns := [fd_split], cls := [], gls := [], flds := [], sub := subT }
def b_without : List S :=
  [.asg (.var 2) (.fz (.lst [(.var 0)])),
   .fors (.var 3) .seq [(.var 1)] [.asg (.var 2) (.fz (.comp2 (.var 5) (.var 4) .seq [(.var 2)] (.var 5) .seq [(.call .fn 0 [(.var 4), (.var 3)])] [4, 5]))],
   .ret (.var 2)]
@[irreducible] def F_without : List D → RF := runF T_without 2 6 [] b_without
def fd_without : Fd := ⟨"without", [], F_without⟩
theorem fe_without : fd_without = ⟨"without", [], runF T_without 2 6 [] b_without⟩ := by unfold fd_without F_without; rfl
def T_check_sketch : Tab := { fns := [fd_is_mask], cls := [], gls := [], flds := [(15, "cells")], sub := subT }
def b_check_sketch : List S :=
  [.ifs (.op .ne [(.op .len [(.var 1)]), (.op .len [(.fld (.var 0) "cells")])]) [.raise 3 none] [],
   .fors (.tup [(.var 2), (.tup [(.var 3), (.var 4)])]) .zip [(.var 1), (.fld (.var 0) "cells")] [.ifs (.not (.call .fn 0 [(.var 2), (.var 4)])) [.raise 3 none] []]]
@[irreducible] def F_check_sketch : List D → RF := runF T_check_sketch 2 5 [] b_check_sketch
def fd_check_sketch : Fd := ⟨"check_sketch", [], F_check_sketch⟩
theorem fe_check_sketch : fd_check_sketch = ⟨"check_sketch", [], runF T_check_sketch 2 5 [] b_check_sketch⟩ := by unfold fd_check_sketch F_check_sketch; rfl
def T_sketch_before : Tab := { fns := [fd_Machine_full], cls := [], gls := [], flds := [(15, "deeds")], sub := subT }
def b_sketch_before : List S :=
  [.asg (.tup [(.var 3), (.var 4), (.var 5)]) (.ix (.fld (.var 0) "deeds") (.var 2)),
   .asg (.var 6) (.op .list [(.var 1)]),
   .asg (.var 7) (.call (.prop 15 "full") 0 [(.var 0)]),
   .fors (.tup [(.var 8), (.var 3)]) .seq [(.var 5)] [.setix 6 [] (.var 8) (.ix (.var 7) (.var 8))],
   .fors (.tup [(.var 8), (.tup [(.var 9), (.var 10)])]) .seq [(.var 5)] [.ifs (.op .eq [(.var 9), (.str "set")]) [.ifs (.op .eq [(.op .band [(.op .shr [(.ix (.var 1) (.var 8)), (.var 10)]), (.int 1)]), (.int 0)]) [.ret .non] []] [.augix 6 .band (.var 10) (.ix (.var 1) (.var 8))]],
   .fors (.tup [(.var 8), (.var 11)]) .seq [(.var 4)] [.augix 6 .band (.var 8) (.var 11)],
   .ret (.ite (.op .all [(.comp (.op .ne [(.var 11), (.int 0)]) (.var 11) .seq [(.var 6)] [] [11])]) (.op .tuple [(.var 6)]) .non)]
@[irreducible] def F_sketch_before : List D → RF := runF T_sketch_before 3 12 [] b_sketch_before
def fd_sketch_before : Fd := ⟨"sketch_before", [], F_sketch_before⟩
theorem fe_sketch_before : fd_sketch_before = ⟨"sketch_before", [], runF T_sketch_before 3 12 [] b_sketch_before⟩ := by unfold fd_sketch_before F_sketch_before; rfl
def T_before : Tab := { fns := [fd_check_sketch, fd_check_deed, fd_sketch_before], cls := [], gls := [], flds := [], sub := subT }
def b_before : List S :=
  [.expr (.call .fn 0 [(.var 0), (.var 1)]),
   .expr (.call .fn 1 [(.var 0), (.var 2)]),
   .ret (.call .fn 2 [(.var 0), (.var 1), (.var 2)])]
@[irreducible] def F_before : List D → RF := runF T_before 3 3 [] b_before
def fd_before : Fd := ⟨"before", [], F_before⟩
theorem fe_before : fd_before = ⟨"before", [], runF T_before 3 3 [] b_before⟩ := by unfold fd_before F_before; rfl
def T_law_refused_2 : Tab := { fns := [fd_before], cls := [], gls := [], flds := [], sub := subT }
def b_law_refused_2 : List S :=
  [.try [.expr (.call .fn 0 [(.var 0), (.var 1), (.var 2)]),
   .ret (.str "none")] [(0, some 3, [.ifs (.isx 3) [.ret (.str "sketch")] [],
   .ret (.ite (.isx 4) (.str "deed") (.str "other"))])]]
@[irreducible] def F_law_refused_2 : List D → RF := runF T_law_refused_2 3 4 [] b_law_refused_2
def fd_law_refused_2 : Fd := ⟨"_law_refused", [], F_law_refused_2⟩
theorem fe_law_refused_2 : fd_law_refused_2 = ⟨"_law_refused", [], runF T_law_refused_2 3 4 [] b_law_refused_2⟩ := by unfold fd_law_refused_2 F_law_refused_2; rfl
def T_law_k08 : Tab := { fns := [fd_law_parts, fd_law_deed, fd_law_cell, fd_law_sketch, fd_law_refused_2, fd_law_disks, fd_law_can, fd_law_in, fd_law_after, fd_before], cls := [(15, fd_Machine_init)], gls := [], flds := [], sub := subT }
def b_law_k08 : List S :=
  [.asg (.tup [(.var 1), (.var 2), (.var 3)]) (.call .fn 0 [(.var 0), (.int 2), (.int 8)]),
   .asg (.var 4) (.fz (.comp (.var 13) (.tup [(.var 12), (.var 13)]) .seq [(.var 1)] [] [12, 13])),
   .ifs (.op .eq [(.op .len [(.var 2)]), (.int 0)]) [.asg (.var 2) (.fz (.lst [(.call .fn 1 [(.call .fn 2 [(.var 0), (.int 1)]), (.var 4), (.int 0)])]))] [],
   .asg (.var 5) (.fz (.make 0 [(.var 1), (.var 2), (.var 3)])),
   .asg (.var 6) (.call .fn 3 [(.call .fn 2 [(.var 0), (.int 0)]), (.var 4)]),
   .asg (.var 7) (.op .mod [(.call .fn 2 [(.var 0), (.int 1)]), (.op .len [(.var 2)])]),
   .ifs (.op .eq [(.op .mod [(.op .fdiv [(.call .fn 2 [(.var 0), (.int 1)]), (.int 16)]), (.int 6)]), (.int 1)]) [.asg (.var 8) (.ix (.tup [(.op .add [(.var 6), (.tup [(.int 1)])]), (.op (.sl true false) [(.var 6), (.int 1)]), (.op .add [(.tup [(.int 0)]), (.op (.sl true false) [(.var 6), (.int 1)])]), (.op .add [(.tup [(.op .shl [(.int 1), (.ix (.var 4) (.int 0))])]), (.op (.sl true false) [(.var 6), (.int 1)])])]) (.op .mod [(.call .fn 2 [(.var 0), (.int 0)]), (.int 4)])),
   .ifs (.or (.op .ne [(.call .fn 4 [(.var 5), (.var 8), (.op .neg [(.int 1)])]), (.str "sketch")]) (.op .ne [(.call .fn 4 [(.var 5), (.var 8), (.var 7)]), (.str "sketch")])) [.ret (.bl false)] [],
   .ret (.and (.op .eq [(.call .fn 4 [(.var 5), (.var 6), (.op .neg [(.int 1)])]), (.str "deed")]) (.op .eq [(.call .fn 4 [(.var 5), (.var 6), (.op .len [(.var 2)])]), (.str "deed")]))] [],
   .asg (.var 9) (.lst []),
   .fors (.var 10) .seq [(.call .fn 5 [(.op .tuple [(.comp (.op .sub [(.op .shl [(.int 1), (.var 13)]), (.int 1)]) (.var 13) .seq [(.var 4)] [] [13])])])] [.ifs (.and (.call .fn 6 [(.var 2), (.var 10), (.var 7)]) (.call .fn 7 [(.var 6), (.call .fn 8 [(.var 2), (.var 10), (.var 7)])])) [.app 9 (.var 10)] []],
   .asg (.var 11) (.call .fn 9 [(.var 5), (.var 6), (.var 7)]),
   .ifs (.op .eq [(.op .len [(.var 9)]), (.int 0)]) [.ret (.op .isN [(.var 11)])] [],
   .ret (.and (.op (.isT "tuple") [(.var 11)]) (.and (.op .eq [(.op .len [(.var 11)]), (.op .len [(.var 4)])]) (.op .eq [(.call .fn 5 [(.var 11)]), (.var 9)])))]
@[irreducible] def F_law_k08 : List D → RF := runF T_law_k08 1 14 [] b_law_k08
def fd_law_k08 : Fd := ⟨"law", [], F_law_k08⟩
theorem fe_law_k08 : fd_law_k08 = ⟨"law", [], runF T_law_k08 1 14 [] b_law_k08⟩ := by unfold fd_law_k08 F_law_k08; rfl
end U
namespace U
open PySem Pd
set_option maxHeartbeats 1000000
local macro_rules | `(tactic| walk_at "side") => `(tactic| first
  | rfl
  | assumption
  | omega
  | (constructor <;> first | decide | omega)
  | decide
  | ((with_reducible refine' emod_side ?k0); (case k0 => omega))
  | ((with_reducible refine' emod_side0 ?k0); (case k0 => omega))
  | walk_at "side1")
local macro_rules | `(tactic| walk_at "still") => `(tactic| first
  | assumption
  | with_reducible exact still_int
  | with_reducible exact still_str
  | with_reducible exact still_bl
  | with_reducible exact still_non
  | with_reducible exact stills_nil
  | with_reducible exact still_tupN
  | with_reducible exact still_tupI
  | ((with_reducible refine stills_map ?k1 _); (case k1 => (intro _; walk_at "still")))
  | ((with_reducible refine' stills_cons' ?k0 ?k1); (case k0 => walk_at "still"); (case k1 => walk_at "still"))
  | ((with_reducible refine' stills_app' ?k0 ?k1); (case k0 => walk_at "still"); (case k1 => walk_at "still"))
  | ((with_reducible refine' still_tup' ?k0); (case k0 => walk_at "still"))
  | ((with_reducible refine' still_lst' ?k0); (case k0 => walk_at "still"))
  | ((with_reducible refine' still_ins' ?k0); (case k0 => walk_at "still"))
  | ((with_reducible refine' stills_take' ?k0); (case k0 => walk_at "still"))
  | ((with_reducible refine' stills_drop' ?k0); (case k0 => walk_at "still"))
  | walk_at "still1")
local macro_rules | `(tactic| walk_at "place") => `(tactic| first
  | with_reducible rfl
  | exact Bool.false_and _
  | exact Bool.true_or _
  | exact place_still (by walk_at "still")
  | exact or_still (by walk_at "still")
  | exact or_stills (by walk_at "still"))
local macro_rules | `(tactic| walk_at "frz") => `(tactic| first
  | with_reducible assumption
  | ((with_reducible refine' frz_still ?k0); (case k0 => walk_at "still"))
  | ((with_reducible refine' frz_mls ?k0); (case k0 => walk_at "still"))
  | ((with_reducible refine' frz_mns ?k0); (case k0 => walk_at "still"))
  | ((with_reducible refine' frz_tup ?k0); (case k0 => walk_at "frzs"))
  | walk_at "frz1")
local macro_rules | `(tactic| walk_at "frzs") => `(tactic| first
  | ((with_reducible refine' frzs_still ?k0); (case k0 => walk_at "still"))
  | ((with_reducible refine' frzs_cons ?k0 ?k1); (case k0 => walk_at "frz"); (case k1 => walk_at "frzs")))
local macro_rules | `(tactic| walk_at "len") => `(tactic| first
  | (simp only [List.length_append, List.length_map, List.length_cons, List.length_nil, List.length_take, List.length_drop, List.length_range]; omega)
  | (simp; omega)
  | (simp; done))
local macro_rules | `(tactic| walk_at "line") => `(tactic| first
  | rfl
  | (refine decide_eq_true ?_; walk_at "len"))
local macro_rules | `(tactic| walk_at "op") => `(tactic| first
  | with_reducible exact op_addI
  | with_reducible exact op_subI
  | with_reducible exact op_eqI
  | with_reducible exact op_neI
  | with_reducible exact op_lt
  | with_reducible exact op_le
  | with_reducible exact op_gt
  | with_reducible exact op_ge
  | ((with_reducible refine' op_mod ?k0); (case k0 => walk_at "side"))
  | ((with_reducible refine' op_fdiv ?k0); (case k0 => walk_at "side"))
  | ((with_reducible refine' op_mulL ?k0); (case k0 => walk_at "side"))
  | ((with_reducible refine' op_mulR ?k0); (case k0 => walk_at "side"))
  | with_reducible exact op_band
  | ((with_reducible refine' op_shr ?k0); (case k0 => walk_at "side"))
  | ((with_reducible refine' op_shl1 ?k0); (case k0 => walk_at "side"))
  | with_reducible exact op_bor
  | with_reducible exact op_bxor
  | with_reducible exact op_neg
  | with_reducible exact op_isN
  | with_reducible exact op_isnN
  | with_reducible exact op_lenL
  | with_reducible exact op_lenM
  | with_reducible exact op_lenT
  | with_reducible exact op_intI
  | with_reducible exact op_absI
  | with_reducible exact op_tupleL
  | ((with_reducible refine' op_tupleM ?k0); (case k0 => walk_at "still"))
  | ((with_reducible refine' op_tupleT ?k0); (case k0 => walk_at "still"))
  | with_reducible exact op_listL
  | ((with_reducible refine' op_listM ?k0); (case k0 => walk_at "still"))
  | ((with_reducible refine' op_listT ?k0); (case k0 => walk_at "still"))
  | with_reducible exact op_all
  | with_reducible exact op_any
  | ((with_reducible refine' op_slH ?k0 ?k1); (case k0 => walk_at "still"); (case k1 => walk_at "side"))
  | ((with_reducible refine' op_slL ?k0 ?k1); (case k0 => walk_at "still"); (case k1 => walk_at "side"))
  | ((with_reducible refine' op_slHL ?k0); (case k0 => walk_at "side"))
  | ((with_reducible refine' op_slLL ?k0); (case k0 => walk_at "side"))
  | ((with_reducible refine' op_addT ?k0 ?k1 ?k2); (case k0 => walk_at "still"); (case k1 => walk_at "still"); (case k2 => walk_at "len"))
  | ((with_reducible refine' op_addLL ?k0); (case k0 => walk_at "len"))
  | ((with_reducible refine' op_addML ?k0 ?k1); (case k0 => walk_at "still"); (case k1 => walk_at "len"))
  | ((with_reducible refine' op_addLM ?k0 ?k1); (case k0 => walk_at "still"); (case k1 => walk_at "len"))
  | ((with_reducible refine' op_addMM ?k0 ?k1 ?k2); (case k0 => walk_at "still"); (case k1 => walk_at "still"); (case k2 => walk_at "len"))
  | with_reducible exact op_eqNT
  | with_reducible exact op_neNT
  | with_reducible exact op_eqNLL
  | with_reducible exact op_neNLL
  | with_reducible exact op_eqNLM
  | with_reducible exact op_eqNMM
  | with_reducible exact op_inN
  | with_reducible exact op_inN0
  | with_reducible exact op_eqTL
  | with_reducible exact op_neTL
  | with_reducible exact op_eqLM
  | with_reducible exact op_eqTM
  | with_reducible exact op_inL
  | ((with_reducible refine' op_eqSL ?k0 ?k1); (case k0 => (decide +kernel)); (case k1 => (decide +kernel)))
  | ((with_reducible refine' op_strN ?k0); (case k0 => walk_at "side"))
  | walk_at "op1")
local macro_rules | `(tactic| walk_at "ix") => `(tactic| first
  | assumption
  | ((with_reducible refine' ix_lst ?k0 ?k1); (case k0 => walk_at "side"); (case k1 => walk_at "side"))
  | ((with_reducible refine' ix_tup ?k0 ?k1); (case k0 => walk_at "side"); (case k1 => walk_at "side"))
  | ((with_reducible refine' ix_mls ?k0 ?k1); (case k0 => walk_at "side"); (case k1 => walk_at "side"))
  | walk_at "ix1")
local macro_rules | `(tactic| walk_at "ev") => `(tactic| first
  | with_reducible exact ev_int
  | ((with_reducible refine' ev_var ?k0); (case k0 => rfl))
  | ((with_reducible refine' ev_op ?k0 ?k1); (case k0 => walk_at "el"); (case k1 => walk_at "op"))
  | ((with_reducible refine' ev_ix ?k0 ?k1 ?k2 ?k3); (case k0 => walk_at "ev"); (case k1 => walk_at "ev"); (case k2 => walk_at "place"); (case k3 => walk_at "ix"))
  | ((with_reducible refine' ev_call (f := _) (ms := _) ?k0 ?k1 ?k2 ?k3 ?k4 ?k5); (case k0 => rfl); (case k1 => rfl); (case k2 => rfl); (case k3 => walk_at "ea"); (case k4 => rfl); (case k5 => walk_at "call"))
  | ((with_reducible refine' ev_tup ?k0 ?k1); (case k0 => walk_at "ec"); (case k1 => rfl))
  | ((with_reducible refine' ev_lst ?k0 ?k1); (case k0 => walk_at "ec"); (case k1 => rfl))
  | with_reducible exact ev_str
  | with_reducible exact ev_bl
  | with_reducible exact ev_non
  | ((with_reducible refine' ev_fz ?k0 ?k1 ?k2); (case k0 => walk_at "ev"); (case k1 => walk_at "place"); (case k2 => walk_at "frz"))
  | ((with_reducible refine' ev_mov ?k0); (case k0 => rfl))
  | ((with_reducible refine' ev_frz ?k0 ?k1); (case k0 => rfl); (case k1 => walk_at "frz"))
  | ((with_reducible refine' ev_and ?k0 ?k1); (case k0 => walk_at "ev"); (case k1 => (intro hq0; (try simp at hq0); walk_at "ev")))
  | ((with_reducible refine' ev_or ?k0 ?k1); (case k0 => walk_at "ev"); (case k1 => (intro hq0; (try simp at hq0); walk_at "ev")))
  | ((with_reducible refine' ev_not ?k0 ?k1); (case k0 => walk_at "ev"); (case k1 => rfl))
  | ((with_reducible refine' ev_iteT ?k0 ?k1 ?k2 ?k3); (case k0 => walk_at "ev"); (case k1 => (decide +kernel)); (case k2 => walk_at "ev"); (case k3 => walk_at "place"))
  | ((with_reducible refine' ev_iteF ?k0 ?k1 ?k2 ?k3); (case k0 => walk_at "ev"); (case k1 => (decide +kernel)); (case k2 => walk_at "ev"); (case k3 => walk_at "place"))
  | ((with_reducible refine' ev_chain ?k0 ?k1 ?k2); (case k0 => walk_at "el"); (case k1 => walk_at "op"); (case k2 => walk_at "op"))
  | ((with_reducible refine' ev_glob ?k0); (case k0 => rfl))
  | ((with_reducible refine' ev_fldI ?k0 ?k1 ?k2); (case k0 => walk_at "ev"); (case k1 => rfl); (case k2 => rfl))
  | ((with_reducible refine' ev_fldM ?k0 ?k1 ?k2); (case k0 => walk_at "ev"); (case k1 => rfl); (case k2 => rfl))
  | ((with_reducible refine' ev_comp0 ?k0 ?k1 ?k2 ?k3 ?k4 ?k5 ?k6 ?k7 ?k8); (case k0 => walk_at "el"); (case k1 => walk_at "iter"); (case k2 => walk_at "still"); (case k3 => walk_at "lt"); (case k4 => walk_at "own"); (case k5 => walk_at "place"); (case k6 => rfl); (case k7 => rfl); (case k8 => (intro _ hcm; refine ⟨_, rfl, rfl, ?_, ?_⟩; walk_at "env"; walk_at "ev"; walk_at "place")))
  | ((with_reducible refine' ev_comp ?k0 ?k1 ?k2 ?k3 ?k4 ?k5 ?k6 ?k7 ?k8); (case k0 => walk_at "el"); (case k1 => walk_at "iter"); (case k2 => walk_at "still"); (case k3 => walk_at "lt"); (case k4 => walk_at "own"); (case k5 => walk_at "place"); (case k6 => rfl); (case k7 => rfl); (case k8 => (intro _ hcm; refine ⟨_, rfl, rfl, ?_, ?_⟩; (walk_at "env"; refine' ev_if1 ?e1 ?e2; case e1 => walk_at "ev"; case e2 => rfl); (intro hcp; (try simp at hcp); refine ⟨?_, ?_⟩; walk_at "env"; walk_at "ev"; walk_at "place"))))
  | walk_at "ev1")
local macro_rules | `(tactic| walk_at "iter") => `(tactic| first
  | with_reducible assumption
  | with_reducible rfl
  | with_reducible exact it_seqL
  | with_reducible exact it_seqM
  | with_reducible exact it_seqT
  | ((with_reducible refine' it_zipT ?k0 ?k1); (case k0 => walk_at "still"); (case k1 => walk_at "still"))
  | ((with_reducible refine' it_zipTL ?k0 ?k1); (case k0 => walk_at "still"); (case k1 => walk_at "still"))
  | ((with_reducible refine' it_zipL ?k0 ?k1); (case k0 => walk_at "still"); (case k1 => walk_at "still"))
  | ((with_reducible refine' it_enumT ?k0); (case k0 => walk_at "still"))
  | ((with_reducible refine' it_enumL ?k0); (case k0 => walk_at "still"))
  | ((with_reducible refine' it_rngN ?k0 ?k1); (case k0 => (first | exact List.length_map .. | rfl)); (case k1 => walk_at "side"))
  | ((with_reducible refine' it_rngN ?k0 ?k1); (case k0 => rfl); (case k1 => walk_at "side"))
  | ((with_reducible refine' it_rng ?k0); (case k0 => walk_at "side"))
  | walk_at "iter1")
local macro_rules | `(tactic| walk_at "lt") => `(tactic| first
  | with_reducible assumption
  | omega
  | (simp only [List.length_append, List.length_map, List.length_cons, List.length_nil, List.length_take, List.length_drop, List.length_range, List.length_zip, List.length_zipIdx]; omega)
  | (simp; omega)
  | decide
  | walk_at "lt1")
local macro_rules | `(tactic| walk_at "own") => `(tactic| first
  | with_reducible rfl
  | rfl
  | walk_at "own1")
local macro_rules | `(tactic| walk_at "go") => `(tactic| (walk_at "st"; all_goals (try walk_at "go")))
local macro_rules | `(tactic| walk_at "fin0") => `(tactic| ((repeat apply Exists.intro); first | with_reducible rfl | rfl | (refine ⟨?_, rfl⟩; first | trivial | simp) | (simp; done)))
local macro_rules | `(tactic| walk_at "el") => `(tactic| first
  | with_reducible exact el_nil
  | ((with_reducible refine' el_cons ?k0 ?k1 ?k2 ?k3); (case k0 => walk_at "ev"); (case k1 => rfl); (case k2 => walk_at "place"); (case k3 => walk_at "el")))
local macro_rules | `(tactic| walk_at "ec") => `(tactic| first
  | with_reducible exact ec_nil
  | ((with_reducible refine' ec_cons ?k0 ?k1 ?k2); (case k0 => walk_at "ev"); (case k1 => walk_at "place"); (case k2 => walk_at "ec")))
local macro_rules | `(tactic| walk_at "ea") => `(tactic| first
  | with_reducible exact ea_nil
  | ((with_reducible refine' ea_bor ?k0 ?k1 ?k2 ?k3); (case k0 => walk_at "ev"); (case k1 => walk_at "frz"); (case k2 => rfl); (case k3 => walk_at "ea"))
  | ((with_reducible refine' ea_cons ?k0 ?k1 ?k2 ?k3 ?k4 ?k5); (case k0 => rfl); (case k1 => walk_at "ev"); (case k2 => walk_at "frz"); (case k3 => walk_at "place"); (case k4 => rfl); (case k5 => walk_at "ea")))
local macro_rules | `(tactic| walk_at "env") => `(tactic| (try dsimp only [List.set, List.cons_append, List.nil_append, List.append_eq]))
local macro_rules | `(tactic| walk_at "in") => `(tactic| (refine' F_ok rfl rfl ?_; simp only [List.map_cons, List.map_nil, List.cons_append, List.nil_append, Nat.reduceSub, List.replicate_succ, List.replicate_zero, List.reduceReplicate, Nat.sub_self, List.append_nil]))
local macro_rules | `(tactic| walk_at "inx") => `(tactic| (refine' F_exn rfl rfl ?_; simp only [List.map_cons, List.map_nil, List.cons_append, List.nil_append, Nat.reduceSub, List.replicate_succ, List.replicate_zero, List.reduceReplicate, Nat.sub_self, List.append_nil]))
local macro_rules | `(tactic| walk_at "inm") => `(tactic| (refine' F_okM rfl rfl ?_; simp only [List.map_cons, List.map_nil, List.cons_append, List.nil_append, Nat.reduceSub, List.replicate_succ, List.replicate_zero, List.reduceReplicate, Nat.sub_self, List.append_nil]))
local macro_rules | `(tactic| walk_at "st") => `(tactic| first
  | ((with_reducible refine' wp_asg ?k0 ?k1 ?k2 ?_); (case k0 => walk_at "ev"); (case k1 => walk_at "place"); (case k2 => rfl); walk_at "env")
  | ((with_reducible refine' wp_app ?k0 ?k1 ?k2 ?k3 ?k4 ?_); (case k0 => rfl); (case k1 => walk_at "ev"); (case k2 => walk_at "place"); (case k3 => rfl); (case k4 => walk_at "line"); walk_at "env")
  | ((with_reducible refine' wp_augI ?k0 ?k1 ?k2 ?k3 ?_); (case k0 => rfl); (case k1 => rfl); (case k2 => walk_at "ev"); (case k3 => walk_at "op"); walk_at "env")
  | ((with_reducible refine' wp_setix ?k0 ?k1 ?k2 ?k3 ?k4 ?k5 ?_); (case k0 => walk_at "ev"); (case k1 => walk_at "place"); (case k2 => rfl); (case k3 => walk_at "ev"); (case k4 => rfl); (case k5 => (refine ixD_map ?_ ?_ <;> walk_at "side")); walk_at "env")
  | ((with_reducible refine' wp_ret ?k0 ?k1 ?_); (case k0 => walk_at "ev"); (case k1 => walk_at "place"); (try dsimp only [Ret, RetM, Lp, Exc, Nx]))
  | ((with_reducible refine' wp_retN ?_); (try dsimp only [Ret, RetM, Lp, Exc, Nx]))
  | ((with_reducible refine' wp_expr ?k0 ?_); (case k0 => walk_at "ev"); walk_at "env")
  | ((with_reducible refine' wp_nil ?_); (try dsimp only [Ret, RetM, Lp, Exc, Nx]))
  | ((with_reducible refine' wp_brk ?_); (try dsimp only [Ret, RetM, Lp, Exc, Nx]))
  | ((with_reducible refine' wp_cnt ?_); (try dsimp only [Ret, RetM, Lp, Exc, Nx]))
  | ((with_reducible refine' wp_raise ?_); (try dsimp only [Ret, RetM, Lp, Exc, Nx]))
  | ((with_reducible refine' wp_ifs ?k1 ?k2 ?_ ?_); (case k1 => walk_at "ev"); (case k2 => rfl); all_goals (intro hif; walk_at "env"; (try simp at hif)))
  | ((with_reducible refine' wp_pass ?_))
  | walk_at "st1")
local macro_rules | `(tactic| walk_at "fin") => `(tactic| ((repeat apply Exists.intro); (repeat' (refine' list_cons_eq ?_ ?_)); (all_goals first | with_reducible rfl | skip)))
local macro_rules | `(tactic| walk_at "ev") => `(tactic| ((with_reducible refine' ev_make ?k0 ?k1 ?k2 ?k3 ?k4); (case k0 => rfl); (case k1 => rfl); (case k2 => rfl); (case k3 => walk_at "ea"); (case k4 => walk_at "call")))
local macro_rules | `(tactic| walk_at "side") => `(tactic| walk_at "lt")
local macro_rules | `(tactic| walk_at "op") => `(tactic| with_reducible assumption)
theorem two_pow_pos (n : Nat) : (0 : Int) < 2 ^ n := Int.pow_pos (by decide)
theorem two_pow_ge {n : Nat} (h : 1 ≤ n) : (2 : Int) ≤ 2 ^ n := by
  obtain ⟨m, rfl⟩ : ∃ m, n = m + 1 := ⟨n - 1, by omega⟩
  rw [Int.pow_succ]
  have := two_pow_pos m
  omega
theorem e_law_cell (ns : List Int) (k : Int) (h0 : 0 ≤ k) : F_law_cell [.lst (ns.map .int), .int k] = .ok (.int (ns.getD k.toNat 0)) [] := by
  unfold F_law_cell b_law_cell
  walk_at "in"
  walk_at "st"
  · walk_at "st"; rfl
  · walk_at "st"
    have : ns.getD k.toNat 0 = 0 := by
      rw [List.getD_eq_getElem?_getD, List.getElem?_eq_none (by omega)]; rfl
    rw [this]
@[irreducible] def mixI (c k : Int) : Int := ((c * 48271 + k * 69621 + 12345) % 2147483647 * 16807 + k * 40692 + 777) % 2147483629 / 997
@[irreducible] def mixN (c k : Int) : Nat := (mixI c k).toNat
theorem mixI_nonneg (c k : Int) : 0 ≤ mixI c k := by unfold mixI; omega
theorem mixN_cast (c k : Int) : ((mixN c k : Nat) : Int) = mixI c k := by unfold mixN; exact Int.toNat_of_nonneg (mixI_nonneg c k)
theorem mixN_lt (c k : Int) : mixN c k < 2153946 := by have := mixN_cast c k; unfold mixI at this; omega
theorem e_law_mix (c k : Int) : F_law_mix [.int c, .int k] = .ok (natD (mixN c k)) [] := by
  unfold F_law_mix b_law_mix
  walk_at "in"
  walk_at "st"
  walk_at "st"
  walk_at "st"
  rw [natD, mixN_cast]; unfold mixI; rfl
@[irreducible] def maskN (n : Int) (s : Nat) : Nat := 1 + (n % (2 ^ s - 1)).toNat
theorem maskN_cast {n : Int} {s : Nat} (h : 1 ≤ s) : ((maskN n s : Nat) : Int) = 1 + n % (2 ^ s - 1) := by
  have := two_pow_ge h
  have := Int.emod_nonneg n (show (2 : Int) ^ s - 1 ≠ 0 by omega)
  unfold maskN; omega
theorem maskN_lt {n : Int} {s : Nat} (h : 1 ≤ s) : 0 < maskN n s ∧ maskN n s < 2 ^ s := by
  have h1 := two_pow_ge h
  have h2 := Int.emod_lt_of_pos n (show (0 : Int) < 2 ^ s - 1 by omega)
  have h3 := maskN_cast (n := n) h
  have h4 : ((2 ^ s : Nat) : Int) = 2 ^ s := by norm_cast
  constructor
  · unfold maskN; omega
  · omega
theorem e_law_mask (n : Int) (s : Nat) (h1 : 1 ≤ s) (h2 : s ≤ 1000) : F_law_mask [.int n, natD s] = .ok (natD (maskN n s)) [] := by
  have hp : (0 : Int) < 2 ^ s - 1 := by
    have := two_pow_ge h1
    omega
  unfold F_law_mask b_law_mask
  walk_at "in"
  walk_at "st"
  rw [natD, maskN_cast h1]; rfl

local macro_rules | `(tactic| walk_at "call") => `(tactic| first
  | assumption
  | (refine' e_law_cell _ _ ?k0; (case k0 => walk_at "side"))
  | (refine' e_law_mix _ _ )
  | (refine' e_law_mask _ _ ?k0 ?k1; (case k0 => walk_at "side"); (case k1 => walk_at "side"))
  | walk_at "call1")
def SzOk (sizes : List Nat) : Prop := ∀ s ∈ sizes, 1 ≤ s ∧ s ≤ 16
theorem SzOk.at_ {sizes : List Nat} (h : SzOk sizes) {k : Nat} (hk : k < sizes.length) : 1 ≤ sizes.getD k default ∧ sizes.getD k default ≤ 16 := by
  rw [List.getD_eq_getElem?_getD, List.getElem?_eq_getElem hk]
  exact h _ (List.getElem_mem hk)
theorem pre_range {n x : Nat} {pre post : List Nat} (h : List.range n = pre ++ x :: post) : pre = List.range x ∧ x < n := by
  have h1 : pre.length < n := by
    have := congrArg List.length h
    simp at this; omega
  have h2 : x = pre.length := by
    have h3 : (List.range n)[pre.length]? = some x := by rw [h]; simp
    rw [List.getElem?_range h1] at h3
    exact (Option.some.inj h3).symm
  refine ⟨?_, by omega⟩
  have h4 : (List.range n).take pre.length = pre := by rw [h]; simp
  rw [List.take_range, Nat.min_eq_left (by omega), ← h2] at h4
  exact h4.symm
/-- one mask of a drawn sketch -/
def sketchAt (c : Int) (sizes : List Nat) (k : Nat) : Nat :=
  if c % 4 = 1 then 2 ^ (mixN c (3 * k) % sizes.getD k 0) else if mixN c (3 * k) / 16 % 3 = 0 then 2 ^ sizes.getD k 0 - 1 else maskN (mixN c (3 * k)) (sizes.getD k 0)
def sketchN (c : Int) (sizes : List Nat) : List Nat := (List.range sizes.length).map (sketchAt c sizes)
theorem natPow_cast {s : Nat} : ((2 ^ s : Nat) : Int) = 2 ^ s := by norm_cast
theorem natPow1_cast {s : Nat} : ((2 ^ s - 1 : Nat) : Int) = 2 ^ s - 1 := by
  have : 0 < 2 ^ s := Nat.pow_pos (by decide)
  have h := natPow_cast (s := s)
  omega
theorem toNat_mod (a b : Nat) : ((a : Int) % (b : Int)).toNat = a % b := by rw [← Int.natCast_emod, Int.toNat_natCast]
theorem int_nat {a : Nat} (h : (a : Int) / 16 % 3 = 0) : a / 16 % 3 = 0 := by omega
theorem nat_int {a : Nat} (h : a / 16 % 3 = 0) : (a : Int) / 16 % 3 = 0 := by omega
theorem e_law_sketch (c : Int) (sizes : List Nat) (hs : SzOk sizes) (hl : sizes.length ≤ 1000) : F_law_sketch [.int c, .lst (sizes.map natD)] = .ok (tupN (sketchN c sizes)) [] := by
  unfold F_law_sketch b_law_sketch
  walk_at "in"
  walk_at "st"
  refine' wp_for (enc := fun k : Nat => D.int (k : Int)) (xs := List.range sizes.length) (fun pre ρ => ∃ x3 x4 x5, ρ = [some (.int c), some (.lst (sizes.map natD)), some (.mls ((pre.map (sketchAt c sizes)).map natD)), x3, x4, x5]) ?a1 ?a2 ?a3 ?a4 ?a5 ?a6 ?a7
  case a1 => walk_at "el"
  case a2 => refine (it_rng (by simp; omega)).trans ?_; simp
  case a3 => walk_at "still"
  case a4 => rfl
  case a5 => exact ⟨_, _, _, rfl⟩
  case a6 =>
    rintro pre x post ρ hx ⟨x3, x4, x5, rfl⟩
    obtain ⟨rfl, hlt⟩ := pre_range hx
    have hlx : (List.range x).length ≤ 1000 := by simp; omega
    have hsz := hs.at_ hlt
    have e : ((x : Int)).toNat = x := Int.toNat_natCast x
    have hsz' : 1 ≤ sizes.getD ((x : Int)).toNat default ∧ sizes.getD ((x : Int)).toNat default ≤ 16 := by rw [e]; exact hsz
    refine ⟨_, rfl, ?_⟩
    walk_at "env"
    walk_at "st"
    walk_at "st"
    walk_at "st"
    · walk_at "st"
      walk_at "st"
      · walk_at "st"
        walk_at "st"
        walk_at "st"
        walk_at "fin"
        rename_i h1 h2
        refine acc_snoc ?_
        simp only [sketchAt, if_pos h2, e, toNat_mod]
        exact (congrArg D.int natPow_cast).symm
      · walk_at "st"
        walk_at "st"
        walk_at "fin"
        rename_i h1 h2
        refine acc_snoc ?_
        simp only [sketchAt, if_neg h2, if_pos (int_nat h1), e, Int.toNat_natCast]
        exact (congrArg D.int natPow1_cast).symm
    · walk_at "st"
      · walk_at "st"
        walk_at "st"
        walk_at "st"
        walk_at "fin"
        rename_i h1 h2
        refine acc_snoc ?_
        simp only [sketchAt, if_pos h2, e, toNat_mod]
        exact (congrArg D.int natPow_cast).symm
      · walk_at "st"
        walk_at "st"
        walk_at "fin"
        rename_i h1 h2
        refine acc_snoc ?_
        simp only [sketchAt, if_neg h2, if_neg (fun q => h1 (nat_int q)), e]
        rfl
  case a7 =>
    rintro ρ ⟨x3, x4, x5, rfl⟩
    walk_at "st"
    rfl

/-! ### pieces, disks in sketches -/
theorem ix_0112 {k : Int} (h : 0 ≤ k ∧ k < 4) : ixOf (.tup [.int 0, .int 1, .int 1, .int 2]) (.int k) = some (natD ([0, 1, 1, 2].getD k.toNat 0)) := by
  have : k = 0 ∨ k = 1 ∨ k = 2 ∨ k = 3 := by omega
  rcases this with rfl | rfl | rfl | rfl <;> rfl
local macro_rules | `(tactic| walk_at "ix1") => `(tactic| first
  | (with_reducible refine' ix_0112 ?k1; (case k1 => omega)) | walk_at "ix2")
def pcnt (c : Int) : Nat := [0, 1, 1, 2].getD (c % 4).toNat 0
def pieceN (c : Int) (sizes : List Nat) : List (List Nat) := (List.range (pcnt c)).map fun k : Nat => sketchN (c / 3 + 1000 * k) sizes
theorem e_law_piece (c : Int) (sizes : List Nat) (hs : SzOk sizes) (hl : sizes.length ≤ 1000) : F_law_piece [.int c, .lst (sizes.map natD)] = .ok (.lst ((pieceN c sizes).map tupN)) [] := by
  have hn : pcnt c ≤ 2 := by
    unfold pcnt
    have : (c % 4).toNat = 0 ∨ (c % 4).toNat = 1 ∨ (c % 4).toNat = 2 ∨ (c % 4).toNat = 3 := by omega
    rcases this with e | e | e | e <;> rw [e] <;> decide
  unfold F_law_piece b_law_piece
  walk_at "in"
  refine' wp_ret ?r1 ?r2 ?_
  case r1 =>
    refine' ev_fz ?f1 ?f2 ?f3
    case f1 =>
      refine' ev_comp0 (enc := fun k : Nat => D.int (k : Int)) (xs := List.range (pcnt c)) (g := fun k : Nat => tupN (sketchN (c / 3 + 1000 * k) sizes)) ?a1 ?a2 ?a3 ?a4 ?b1 ?b2 ?b3 ?b4 ?a5
      case a1 => walk_at "el"
      case a2 => exact it_rngN rfl (by omega)
      case a3 => walk_at "still"
      case a4 => rw [List.length_range]; omega
      case b1 => rfl
      case b2 => rfl
      case b3 => rfl
      case b4 => rfl
      case a5 =>
        intro x hx
        refine ⟨_, rfl, rfl, ?_, rfl⟩
        walk_at "env"
        with_reducible refine' ev_call (f := _) (ms := _) ?k0 ?k1 ?k2 ?k3 ?k4 ?k5
        case k0 => rfl
        case k1 => rfl
        case k2 => rfl
        case k3 => walk_at "ea"
        case k4 => rfl
        case k5 => exact e_law_sketch _ _ hs hl
    case f2 => rfl
    case f3 => walk_at "frz"
  case r2 => rfl
  dsimp only [Ret]
  unfold pieceN
  rw [List.map_map]; rfl
theorem bit_eq (m v : Nat) : Builtin.bitAnd ((m : Int) / 2 ^ v) 1 = if m.testBit v = true then 1 else 0 := by
  rw [PyProof.Rows.bitAnd_m1]
  have e : ((m : Int) / 2 ^ v) = ((m / 2 ^ v : Nat) : Int) := by
    rw [Int.natCast_ediv, natPow_cast]
  rw [e, Nat.testBit_eq_decide_div_mod_eq]
  by_cases h : m / 2 ^ v % 2 = 1
  · rw [decide_eq_true h, if_pos rfl]; omega
  · rw [decide_eq_false h]; simp; omega
def inN (s d : List Nat) : Bool := (s.zip d).all fun p => p.1.testBit p.2
theorem e_law_in (s d : List Nat) : F_law_in [tupN s, tupN d] = .ok (.bl (inN s d)) [] := by
  unfold F_law_in b_law_in
  walk_at "in"
  refine' wp_for (enc := fun p : Nat × Nat => D.tup [natD p.1, natD p.2]) (xs := s.zip d) (fun pre ρ => (∀ p ∈ pre, p.1.testBit p.2 = true) ∧ ∃ x2 x3, ρ = [some (tupN s), some (tupN d), x2, x3]) ?a1 ?a2 ?a3 ?a4 ?a5 ?a6 ?a7
  case a1 => walk_at "el"
  case a2 => exact it_zipT (by walk_at "still") (by walk_at "still")
  case a3 => walk_at "still"
  case a4 => rfl
  case a5 => exact ⟨fun _ h => (nomatch h), _, _, rfl⟩
  case a6 =>
    rintro pre x post ρ hx ⟨hp, x2, x3, rfl⟩
    refine ⟨_, rfl, ?_⟩
    walk_at "env"
    walk_at "st"
    · walk_at "st"
      rename_i h
      rw [bit_eq] at h
      have hb : x.1.testBit x.2 = false := by
        cases q : x.1.testBit x.2 with
        | false => rfl
        | true => rw [q] at h; cases h
      refine congrArg D.bl (Eq.symm ?_)
      unfold inN
      rw [hx, List.all_append, List.all_cons, hb]
      simp
    · walk_at "st"
      rename_i h
      rw [bit_eq] at h
      have hb : x.1.testBit x.2 = true := by
        cases q : x.1.testBit x.2 with
        | false => rw [q] at h; exact (h rfl).elim
        | true => rfl
      refine ⟨fun p hp' => ?_, _, _, rfl⟩
      rcases List.mem_append.mp hp' with h' | h'
      · exact hp p h'
      · rw [List.mem_singleton.mp h']; exact hb
  case a7 =>
    rintro ρ ⟨hp, x2, x3, rfl⟩
    walk_at "st"
    refine congrArg D.bl (Eq.symm ?_)
    exact List.all_eq_true.mpr hp
def hasN (p : List (List Nat)) (d : List Nat) : Bool := p.any fun s => inN s d
local macro_rules | `(tactic| walk_at "call1") => `(tactic| first
  | (refine' e_law_in _ _) | walk_at "call2")
theorem e_law_has (p : List (List Nat)) (d : List Nat) : F_law_has [.lst (p.map tupN), tupN d] = .ok (.bl (hasN p d)) [] := by
  unfold F_law_has b_law_has
  walk_at "in"
  refine' wp_for (enc := tupN) (xs := p) (fun pre ρ => (∀ s ∈ pre, inN s d = false) ∧ ∃ x2, ρ = [some (.lst (p.map tupN)), some (tupN d), x2]) ?a1 ?a2 ?a3 ?a4 ?a5 ?a6 ?a7
  case a1 => walk_at "el"
  case a2 => rfl
  case a3 => walk_at "still"
  case a4 => rfl
  case a5 => exact ⟨fun _ h => (nomatch h), _, rfl⟩
  case a6 =>
    rintro pre x post ρ hx ⟨hp, x2, rfl⟩
    refine ⟨_, rfl, ?_⟩
    walk_at "env"
    walk_at "st"
    · walk_at "st"
      rename_i h
      refine congrArg D.bl (Eq.symm ?_)
      unfold hasN
      rw [hx, List.any_append, List.any_cons, h]
      simp
    · walk_at "st"
      rename_i h
      refine ⟨fun p hp' => ?_, _, rfl⟩
      rcases List.mem_append.mp hp' with h' | h'
      · exact hp p h'
      · rw [List.mem_singleton.mp h']; exact h
  case a7 =>
    rintro ρ ⟨hp, x2, rfl⟩
    walk_at "st"
    refine congrArg D.bl (Eq.symm ?_)
    unfold hasN
    rw [List.any_eq_false]
    exact fun s hs => by rw [hp s hs]; exact Bool.false_ne_true

/-! ### all disks of a sketch -/
def valsN (m : Nat) : List Nat := (List.range 16).filter fun v => m.testBit v
def extN (m : Nat) (d : List Nat) : List (List Nat) := (valsN m).map fun v => d ++ [v]
def disksN (s : List Nat) : List (List Nat) := s.foldl (fun ds m => ds.flatMap (extN m)) [[]]
theorem disksN_snoc (s : List Nat) (m : Nat) : disksN (s ++ [m]) = (disksN s).flatMap (extN m) := by unfold disksN; rw [List.foldl_append]; rfl
theorem disksN_len0 : ∀ (s : List Nat) (acc : List (List Nat)) (n : Nat), (∀ d ∈ acc, d.length = n) → ∀ d ∈ s.foldl (fun ds m => ds.flatMap (extN m)) acc, d.length = n + s.length
  | [], acc, n, h, d, hd => by simpa using h d hd
  | m :: s, acc, n, h, d, hd => by
    have := disksN_len0 s (acc.flatMap (extN m)) (n + 1) (fun e he => by
      obtain ⟨f, h1, h2⟩ := List.mem_flatMap.mp he
      obtain ⟨v, _, rfl⟩ := List.mem_map.mp h2
      simp [h f h1]) d hd
    simp only [List.length_cons]; omega
theorem disksN_len (s : List Nat) (d : List Nat) (h : d ∈ disksN s) : d.length = s.length := by
  have := disksN_len0 s [[]] 0 (fun d h => by simp at h; rw [h]; rfl) d h
  omega
theorem flat_le {α β : Type} {f : α → List β} {pre post : List α} {x : α} : (pre.flatMap f).length + (f x).length ≤ ((pre ++ x :: post).flatMap f).length := by
  simp
theorem e_law_disks (s : List Nat) (hl : s.length ≤ 1000) (hb : ∀ pre post, s = pre ++ post → (disksN pre).length ≤ 1000000) : F_law_disks [tupN s] = .ok (.lst ((disksN s).map tupN)) [] := by
  unfold F_law_disks b_law_disks
  walk_at "in"
  walk_at "st"
  refine' wp_for (enc := natD) (xs := s) (fun pre ρ => ∃ x2 x3 x4 x5, ρ = [some (tupN s), some (.lst ((disksN pre).map tupN)), x2, x3, x4, x5]) ?a1 ?a2 ?a3 ?a4 ?a5 ?a6 ?a7
  case a1 => walk_at "el"
  case a2 => rfl
  case a3 => walk_at "still"
  case a4 => walk_at "place"
  case a5 => exact ⟨_, _, _, _, rfl⟩
  case a6 =>
    rintro pre m post ρ hx ⟨x2, x3, x4, x5, rfl⟩
    refine ⟨_, rfl, ?_⟩
    walk_at "env"
    walk_at "st"
    have hb1 : ((disksN pre).flatMap (extN m)).length ≤ 1000000 := by rw [← disksN_snoc]; exact hb (pre ++ [m]) post (by rw [hx]; simp)
    refine' wp_for (enc := tupN) (xs := disksN pre) (fun p ρ => ∃ x4 x5, ρ = [some (tupN s), some (.lst ((disksN pre).map tupN)), some (natD m), some (.mls ((p.flatMap (extN m)).map tupN)), x4, x5]) ?c1 ?c2 ?c3 ?c4 ?c5 ?c6 ?c7
    case c1 => walk_at "el"
    case c2 => rfl
    case c3 => walk_at "still"
    case c4 => walk_at "place"
    case c5 => exact ⟨_, _, rfl⟩
    case c6 =>
      rintro p d q ρ hp ⟨x4, x5, rfl⟩
      refine ⟨_, rfl, ?_⟩
      walk_at "env"
      have hb2 : (p.flatMap (extN m)).length + (extN m d).length ≤ 1000000 := by rw [hp] at hb1; exact Nat.le_trans flat_le hb1
      have hd : d.length ≤ 1000 := by
        rw [disksN_len pre d (by rw [hp]; simp)]
        have := congrArg List.length hx
        simp at this; omega
      refine' wp_for (enc := fun k : Nat => D.int (k : Int)) (xs := List.range 16) (fun r ρ => ∃ x5, ρ = [some (tupN s), some (.lst ((disksN pre).map tupN)), some (natD m), some (.mls ((p.flatMap (extN m) ++ (r.filter fun v => m.testBit v).map fun v => d ++ [v]).map tupN)), some (tupN d), x5]) ?e1 ?e2 ?e3 ?e4 ?e5 ?e6 ?e7
      case e1 => walk_at "el"
      case e2 => exact it_rngN (n := 16) rfl (by decide)
      case e3 => walk_at "still"
      case e4 => walk_at "place"
      case e5 => exact ⟨_, by simp only [List.filter_nil, List.map_nil, List.append_nil]; rfl⟩
      case e6 =>
        rintro r v t ρ hr ⟨x5, rfl⟩
        have hv : r.length ≤ 16 := by have := congrArg List.length hr; simp at this; omega
        have hv2 : (r.filter fun v => m.testBit v).length ≤ 16 := Nat.le_trans (List.length_filter_le ..) hv
        refine ⟨_, rfl, ?_⟩
        walk_at "env"
        walk_at "st"
        · walk_at "st"
          walk_at "st"
          walk_at "fin"
          rename_i h
          rw [bit_eq] at h
          have hb : m.testBit v = true := by
            cases q : m.testBit v with
            | false => rw [q] at h; cases h
            | true => rfl
          rw [List.filter_append, List.filter_cons, if_pos hb]
          simp
        · walk_at "st"
          walk_at "fin"
          rename_i h
          rw [bit_eq] at h
          have hb : ¬ m.testBit v = true := fun q => h (if_pos q)
          rw [List.filter_append, List.filter_cons, if_neg hb]
          simp
      case e7 =>
        rintro ρ ⟨x5, rfl⟩
        walk_at "st"
        walk_at "fin"
        rw [List.flatMap_append]
        simp [extN, valsN]
    case c7 =>
      rintro ρ ⟨x4, x5, rfl⟩
      walk_at "st"
      walk_at "st"
      walk_at "fin"
      rw [disksN_snoc]
  case a7 =>
    rintro ρ ⟨x2, x3, x4, x5, rfl⟩
    walk_at "st"

/-! ### deeds -/
inductive Src where
  | set (v : Nat) | cp (k : Nat)
  deriving DecidableEq, Inhabited
structure Deed where
  name : Str
  guard : List (Nat × Nat)
  chg : List (Nat × Src)
  deriving DecidableEq, Inhabited
def encS : Src → D
  | .set v => .tup [.str "set", natD v]
  | .cp k => .tup [.str "copy", natD k]
def encG (p : Nat × Nat) : D := .tup [natD p.1, natD p.2]
def encC (p : Nat × Src) : D := .tup [natD p.1, encS p.2]
def encDeed (d : Deed) : D := .tup [.str d.name, .tup (d.guard.map encG), .tup (d.chg.map encC)]
def encCell (p : Str × Nat) : D := .tup [.str p.1, natD p.2]
theorem still_encS (p : Src) : still (encS p) = true := by cases p <;> rfl
theorem still_encG (p : Nat × Nat) : still (encG p) = true := rfl
theorem still_encC (p : Nat × Src) : still (encC p) = true := by unfold encC; rw [still_tup, stills_cons, stills_cons, still_encS]; rfl
theorem still_encDeed (d : Deed) : still (encDeed d) = true := by
  unfold encDeed
  rw [still_tup, stills_cons, stills_cons, stills_cons, still_tup, still_tup, stills_map still_encG, stills_map still_encC]; rfl
theorem still_encCell (p : Str × Nat) : still (encCell p) = true := rfl
local macro_rules | `(tactic| walk_at "still1") => `(tactic| first
  | with_reducible exact still_encDeed _ | with_reducible exact still_encG _ | with_reducible exact still_encC _ | with_reducible exact still_encS _ | with_reducible exact still_encCell _ | walk_at "still2")
theorem ix_deed0 {d : Deed} : ixOf (encDeed d) (.int 0) = some (.str d.name) := rfl
theorem ix_deed1 {d : Deed} : ixOf (encDeed d) (.int 1) = some (.tup (d.guard.map encG)) := rfl
theorem ix_deed2 {d : Deed} : ixOf (encDeed d) (.int 2) = some (.tup (d.chg.map encC)) := rfl
theorem ix_src0 {v : Nat} : ixOf (encS (.set v)) (.int 0) = some (.str "set") := rfl
theorem ix_src1 {v : Nat} : ixOf (encS (.cp v)) (.int 0) = some (.str "copy") := rfl
theorem ix_src2 {v : Nat} : ixOf (encS (.set v)) (.int 1) = some (natD v) := rfl
theorem ix_src3 {v : Nat} : ixOf (encS (.cp v)) (.int 1) = some (natD v) := rfl
local macro_rules | `(tactic| walk_at "ix2") => `(tactic| first
  | with_reducible exact ix_deed0 | with_reducible exact ix_deed1 | with_reducible exact ix_deed2 | with_reducible exact ix_src0 | with_reducible exact ix_src1 | with_reducible exact ix_src2 | with_reducible exact ix_src3 | walk_at "ix3")
/-- a deed of a machine with n cells -/
def DeedOk (n : Nat) (d : Deed) : Prop := (∀ p ∈ d.guard, p.1 < n) ∧ (∀ p ∈ d.chg, p.1 < n) ∧ ∀ p ∈ d.chg, ∀ k, p.2 = .cp k → k < n
def canN (d : Deed) (disk : List Nat) : Bool := d.guard.all fun p => p.2.testBit (disk.getD p.1 0)
theorem e_law_can (ds : List Deed) (disk : List Nat) (i : Int) (h0 : 0 ≤ i) (h1 : i < ds.length) (hd : DeedOk disk.length (ds.getD i.toNat default)) : F_law_can [.lst (ds.map encDeed), tupN disk, .int i] = .ok (.bl (canN (ds.getD i.toNat default) disk)) [] := by
  generalize hdd : ds.getD i.toNat default = dd at hd
  have hix : ixOf (.lst (ds.map encDeed)) (.int i) = some (encDeed dd) := by rw [← hdd]; exact ix_lst h0 h1
  unfold F_law_can b_law_can
  walk_at "in"
  refine' wp_for (enc := encG) (xs := dd.guard) (fun pre ρ => (∀ p ∈ pre, p.2.testBit (disk.getD p.1 0) = true) ∧ ∃ x3 x4, ρ = [some (.lst (ds.map encDeed)), some (tupN disk), some (.int i), x3, x4]) ?a1 ?a2 ?a3 ?a4 ?a5 ?a6 ?a7
  case a1 =>
    refine' el_cons ?k1 rfl ?k2 el_nil
    case k1 =>
      refine' ev_ix (ev_ix (ev_var rfl) (ev_var rfl) ?k3 hix) ev_int ?k4 ix_deed1
      case k3 => walk_at "place"
      case k4 => walk_at "place"
    case k2 => walk_at "place"
  case a2 => rfl
  case a3 => walk_at "still"
  case a4 => walk_at "place"
  case a5 => exact ⟨fun _ h => (nomatch h), _, _, rfl⟩
  case a6 =>
    rintro pre x post ρ hx ⟨hp, x3, x4, rfl⟩
    have hxl : x.1 < disk.length := hd.1 x (by rw [hx]; simp)
    refine ⟨_, rfl, ?_⟩
    walk_at "env"
    walk_at "st"
    · walk_at "st"
      rename_i h
      rw [bit_eq] at h
      have hb : x.2.testBit (disk.getD x.1 0) = false := by
        cases q : x.2.testBit (disk.getD x.1 0) with
        | false => rfl
        | true => rw [← List.getD_eq_getElem?_getD, q] at h; cases h
      refine congrArg D.bl (Eq.symm ?_)
      unfold canN
      rw [hx, List.all_append, List.all_cons, hb]
      simp
    · walk_at "st"
      rename_i h
      rw [bit_eq] at h
      have hb : x.2.testBit (disk.getD x.1 0) = true := by
        cases q : x.2.testBit (disk.getD x.1 0) with
        | false => rw [← List.getD_eq_getElem?_getD, q] at h; exact (h rfl).elim
        | true => rfl
      refine ⟨fun p hp' => ?_, _, _, rfl⟩
      rcases List.mem_append.mp hp' with h' | h'
      · exact hp p h'
      · rw [List.mem_singleton.mp h']; exact hb
  case a7 =>
    rintro ρ ⟨hp, x3, x4, rfl⟩
    walk_at "st"
    refine congrArg D.bl (Eq.symm ?_)
    exact List.all_eq_true.mpr hp

def srcV (disk : List Nat) : Src → Nat
  | .set v => v
  | .cp k => disk.getD k 0
def afterN (d : Deed) (disk : List Nat) : List Nat := d.chg.foldl (fun vs p => vs.set p.1 (srcV disk p.2)) disk
theorem foldl_set_len {f : Nat × Src → Nat} : ∀ (l : List (Nat × Src)) (vs : List Nat), (l.foldl (fun vs p => vs.set p.1 (f p)) vs).length = vs.length
  | [], _ => rfl
  | p :: l, vs => by rw [List.foldl_cons, foldl_set_len l]; simp
theorem map_set_nat {vs : List Nat} {k v : Nat} : (vs.map natD).set k (natD v) = (vs.set k v).map natD := by rw [List.map_set]
theorem e_law_after (ds : List Deed) (disk : List Nat) (i : Int) (h0 : 0 ≤ i) (h1 : i < ds.length) (hd : DeedOk disk.length (ds.getD i.toNat default)) : F_law_after [.lst (ds.map encDeed), tupN disk, .int i] = .ok (tupN (afterN (ds.getD i.toNat default) disk)) [] := by
  generalize hdd : ds.getD i.toNat default = dd at hd
  have hix : ixOf (.lst (ds.map encDeed)) (.int i) = some (encDeed dd) := by rw [← hdd]; exact ix_lst h0 h1
  unfold F_law_after b_law_after
  walk_at "in"
  walk_at "st"
  refine' wp_for (enc := encC) (xs := dd.chg) (fun pre ρ => ∃ x4 x5, ρ = [some (.lst (ds.map encDeed)), some (tupN disk), some (.int i), some (.mls ((pre.foldl (fun vs p => vs.set p.1 (srcV disk p.2)) disk).map natD)), x4, x5]) ?a1 ?a2 ?a3 ?a4 ?a5 ?a6 ?a7
  case a1 =>
    refine' el_cons ?k1 rfl ?k2 el_nil
    case k1 =>
      refine' ev_ix (ev_ix (ev_var rfl) (ev_var rfl) ?k3 hix) ev_int ?k4 ix_deed2
      case k3 => walk_at "place"
      case k4 => walk_at "place"
    case k2 => walk_at "place"
  case a2 => rfl
  case a3 => walk_at "still"
  case a4 => walk_at "place"
  case a5 => exact ⟨_, _, rfl⟩
  case a6 =>
    rintro pre ⟨cell, src⟩ post ρ hx ⟨x4, x5, rfl⟩
    have hm : (cell, src) ∈ dd.chg := by rw [hx]; simp
    have hxl : cell < disk.length := hd.2.1 _ hm
    have hlen : (pre.foldl (fun vs p => vs.set p.1 (srcV disk p.2)) disk).length = disk.length := foldl_set_len _ _
    refine ⟨_, rfl, ?_⟩
    walk_at "env"
    cases src with
    | set v =>
      walk_at "st"
      walk_at "st"
      walk_at "fin"
      rw [Int.toNat_natCast, map_set_nat, List.foldl_append]; rfl
    | cp k =>
      have hk : k < disk.length := hd.2.2 _ hm k rfl
      walk_at "st"
      walk_at "st"
      walk_at "fin"
      rw [Int.toNat_natCast, Int.toNat_natCast, map_set_nat, List.foldl_append]; rfl
  case a7 =>
    rintro ρ ⟨x4, x5, rfl⟩
    walk_at "st"
    rfl

/-! ### the drawn machine -/
def mName (n : Nat) : Str := "m" ++ toString (n : Int)
theorem mName_op {n : Nat} (h : n < 10) : opD .add [.str "m", .str (toString (n : Int))] = some (.str (mName n)) := by
  refine op_addS ?_
  have : n = 0 ∨ n = 1 ∨ n = 2 ∨ n = 3 ∨ n = 4 ∨ n = 5 ∨ n = 6 ∨ n = 7 ∨ n = 8 ∨ n = 9 := by omega
  rcases this with rfl | rfl | rfl | rfl | rfl | rfl | rfl | rfl | rfl | rfl <;> decide +kernel
local macro_rules | `(tactic| walk_at "op1") => `(tactic| first
  | (with_reducible refine' mName_op ?k1; (case k1 => walk_at "side")) | walk_at "op2")
def guardAt (c : Int) (sizes : List Nat) (k : Nat) : Option (Nat × Nat) :=
  if mixN c (4 * k) % 5 < 2 then some (k, maskN (mixN c (4 * k + 1)) (sizes.getD k 0)) else none
def chgAt (c : Int) (sizes : List Nat) (k : Nat) : Option (Nat × Src) :=
  if mixN c (4 * k + 2) % 6 < 2 then some (k, .set (mixN c (4 * k + 3) % sizes.getD k 0))
  else if mixN c (4 * k + 2) % 6 = 2 ∧ sizes.getD (mixN c (4 * k + 3) % sizes.length) 0 ≤ sizes.getD k 0 then some (k, .cp (mixN c (4 * k + 3) % sizes.length)) else none
def deedN (c : Int) (sizes : List Nat) (n : Nat) : Deed := ⟨mName n, (List.range sizes.length).filterMap (guardAt c sizes), (List.range sizes.length).filterMap (chgAt c sizes)⟩
theorem acc_fm {α β : Type} {enc : β → D} {f : α → Option β} {pre : List α} {x : α} {y : β} (h : f x = some y) {v : D} (hv : v = enc y) : some (D.mls ((pre.filterMap f).map enc ++ [v])) = some (D.mls (((pre ++ [x]).filterMap f).map enc)) := by
  rw [hv, List.filterMap_append]; simp [h]
theorem acc_fm0 {α β : Type} {enc : β → D} {f : α → Option β} {pre : List α} {x : α} (h : f x = none) : some (D.mls ((pre.filterMap f).map enc)) = some (D.mls (((pre ++ [x]).filterMap f).map enc)) := by
  rw [List.filterMap_append]; simp [h]
theorem modN {a b : Nat} : (a : Int) % (b : Int) = ((a % b : Nat) : Int) := (Int.natCast_emod a b).symm
theorem e_law_deed (c : Int) (sizes : List Nat) (n : Int) (hs : SzOk sizes) (h1 : 1 ≤ sizes.length) (hl : sizes.length ≤ 1000) (hn : 0 ≤ n) (hn2 : n < 10) : F_law_deed [.int c, .lst (sizes.map natD), .int n] = .ok (encDeed (deedN c sizes n.toNat)) [] := by
  obtain ⟨n, rfl⟩ := Int.eq_ofNat_of_zero_le hn
  rw [Int.toNat_natCast]
  unfold F_law_deed b_law_deed
  walk_at "in"
  walk_at "st"
  walk_at "st"
  walk_at "st"
  with_reducible refine' wp_for (α := _) (enc := fun k : Nat => D.int (k : Int)) (xs := List.range sizes.length) (fun pre ρ => ∃ x6 x7 x8, ρ = [some (.int c), some (.lst (sizes.map natD)), some (.int (n : Int)), some (natD (sizes.map natD).length), some (.mls ((pre.filterMap (guardAt c sizes)).map encG)), some (.mls ((pre.filterMap (chgAt c sizes)).map encC)), x6, x7, x8]) ?a1 ?a2 ?a3 ?a4 ?a5 ?a6 ?a7
  case a1 => walk_at "el"
  case a2 => exact it_rngN (List.length_map ..) (by omega)
  case a3 => walk_at "still"
  case a4 => walk_at "place"
  case a5 => exact ⟨_, _, _, rfl⟩
  case a6 =>
    rintro pre x post ρ hx ⟨x6, x7, x8, rfl⟩
    obtain ⟨rfl, hlt⟩ := pre_range hx
    have hsz := hs.at_ hlt
    have e : ((x : Int)).toNat = x := Int.toNat_natCast x
    have hsz' : 1 ≤ sizes.getD ((x : Int)).toNat default ∧ sizes.getD ((x : Int)).toNat default ≤ 16 := by rw [e]; exact hsz
    have hlf : (List.filterMap (guardAt c sizes) (List.range x)).length ≤ 1000 := Nat.le_trans (List.length_filterMap_le ..) (by simp; omega)
    have hlg : (List.filterMap (chgAt c sizes) (List.range x)).length ≤ 1000 := Nat.le_trans (List.length_filterMap_le ..) (by simp; omega)
    have hl2 : ((sizes.map natD).length : Int) = sizes.length := by simp
    have hot : 0 ≤ (mixN c (4 * x + 3) : Int) % ((sizes.map natD).length : Nat) ∧ (mixN c (4 * x + 3) : Int) % ((sizes.map natD).length : Nat) < sizes.length := by
      rw [hl2]
      exact ⟨Int.emod_nonneg _ (by omega), Int.emod_lt_of_pos _ (by omega)⟩
    refine ⟨_, rfl, ?_⟩
    walk_at "env"
    with_reducible refine' wp_ifj (fun ρ => ρ = [some (.int c), some (.lst (sizes.map natD)), some (.int (n : Int)), some (natD (sizes.map natD).length), some (.mls (((List.range x ++ [x]).filterMap (guardAt c sizes)).map encG)), some (.mls (((List.range x).filterMap (chgAt c sizes)).map encC)), some (.int (x : Int)), x7, x8]) ?m1 ?m2 ?m3 ?m4 ?m5
    case m1 => walk_at "ev"
    case m2 => rfl
    case m3 =>
      intro h
      simp at h
      walk_at "st"
      walk_at "st"
      walk_at "fin"
      exact acc_fm (y := (x, maskN (mixN c (4 * x + 1)) (sizes.getD x 0))) (by unfold guardAt; rw [if_pos (by omega)]) (by rw [e]; rfl)
    case m4 =>
      intro h
      simp at h
      walk_at "st"
      walk_at "fin"
      exact acc_fm0 (by unfold guardAt; rw [if_neg (by omega)])
    case m5 =>
      rintro ρ rfl
      walk_at "st"
      walk_at "st"
      have hsm : 1 ≤ (sizes.getD ((x : Int)).toNat default : Int) ∧ (sizes.getD ((x : Int)).toNat default : Int) ≤ 1000 := by omega
      have eo : ((mixN c (4 * x + 3) : Int) % ((sizes.map natD).length : Nat)) = ((mixN c (4 * x + 3) % sizes.length : Nat) : Int) := by rw [hl2, modN]
      rw [eo] at hot ⊢
      walk_at "st"
      · rename_i h
        walk_at "st"
        walk_at "st"
        walk_at "fin"
        refine acc_fm (f := chgAt c sizes) (x := x) (y := (x, Src.set (mixN c (4 * (x : Int) + 3) % sizes.getD x 0))) ?_ ?_
        · unfold chgAt; rw [if_pos (by omega)]
        · rw [e, modN]; rfl
      · rename_i h
        walk_at "st"
        · rename_i h'
          rw [toNat_mod] at h'
          walk_at "st"
          walk_at "st"
          walk_at "fin"
          refine acc_fm (f := chgAt c sizes) (x := x) (y := (x, Src.cp (mixN c (4 * (x : Int) + 3) % sizes.length))) ?_ ?_
          · unfold chgAt; simp only [List.getD_eq_getElem?_getD]; rw [if_neg (by omega), if_pos ⟨by omega, by omega⟩]
          · rfl
        · rename_i h'
          rw [toNat_mod] at h'
          walk_at "st"
          walk_at "fin"
          exact acc_fm0 (by unfold chgAt; simp only [List.getD_eq_getElem?_getD]; rw [if_neg (by omega), if_neg (by omega)])
  case a7 =>
    rintro ρ ⟨x6, x7, x8, rfl⟩
    walk_at "st"
    rfl

def abcN (k : Nat) : Str := if k = 0 then "a" else if k = 1 then "b" else if k = 2 then "c" else "d"
theorem ix_abcd {k : Int} (h : 0 ≤ k ∧ k < 4) : ixOf (.str "abcd") (.int k) = some (.str (abcN k.toNat)) := by
  have : k = 0 ∨ k = 1 ∨ k = 2 ∨ k = 3 := by omega
  rcases this with rfl | rfl | rfl | rfl <;> rfl
local macro_rules | `(tactic| walk_at "ix3") => `(tactic| first
  | (with_reducible refine' ix_abcd ?k1; (case k1 => omega)) | walk_at "ix4")
def cellI (ns : List Int) (k : Nat) : Int := ns.getD k 0
def cntN (ns : List Int) (i : Nat) : Nat := 1 + (cellI ns i % 4).toNat
def sizesN (ns : List Int) (i : Nat) : List Nat := (List.range (cntN ns i)).map fun k : Nat => 1 + mixN (cellI ns i) k % 3
def cellsN (ns : List Int) (i : Nat) : List (Str × Nat) := (List.range (cntN ns i)).map fun k => (abcN k, (sizesN ns i).getD k 0)
def deedsN (ns : List Int) (i m : Nat) : List Deed := (List.range (cellI ns (i + 1) % (m + 1 : Nat)).toNat).map fun k => deedN (cellI ns (i + 2 + k)) (sizesN ns i) k
def firstAt (c : Int) (sizes : List Nat) (k : Nat) : Nat := if c / 64 % 2 = 1 then 2 ^ (mixN c k % sizes.getD k 0) else maskN (mixN c k) (sizes.getD k 0)
def firstN (ns : List Int) (i : Nat) : List Nat := (List.range (cntN ns i)).map (firstAt (cellI ns (i + 1)) (sizesN ns i))
theorem sizesN_len (ns : List Int) (i : Nat) : (sizesN ns i).length = cntN ns i := by unfold sizesN; simp
theorem cntN_le (ns : List Int) (i : Nat) : 1 ≤ cntN ns i ∧ cntN ns i ≤ 4 := by unfold cntN; omega
theorem sizesN_ok (ns : List Int) (i : Nat) : ∀ s ∈ sizesN ns i, 1 ≤ s ∧ s ≤ 3 := by
  intro s hs
  obtain ⟨k, _, rfl⟩ := List.mem_map.mp hs
  omega
theorem sizesN_sz (ns : List Int) (i : Nat) : SzOk (sizesN ns i) := fun s hs => by have := sizesN_ok ns i s hs; omega
theorem cell_of (ns : List Int) (k : Int) (n : Nat) (h : k = n) : F_law_cell [.lst (ns.map .int), .int k] = .ok (.int (cellI ns n)) [] := by
  subst h
  exact e_law_cell ns n (by omega)
theorem e_law_parts (ns : List Int) (i m : Nat) (hm : m < 10) (hi : i < 1000) : F_law_parts [.lst (ns.map .int), .int (i : Int), .int (m : Int)] = .ok (.tup [.lst ((cellsN ns i).map encCell), .lst ((deedsN ns i m).map encDeed), tupN (firstN ns i)]) [] := by
  have hc := cntN_le ns i
  have hcast : (1 : Int) + cellI ns i % 4 = (cntN ns i : Nat) := by unfold cntN; omega
  have hss := sizesN_sz ns i
  have hsl := sizesN_len ns i
  unfold F_law_parts b_law_parts
  walk_at "in"
  have c1 : F_law_cell [.lst (ns.map .int), .int (i : Int)] = .ok (.int (cellI ns i)) [] := cell_of ns _ i rfl
  have c2 : F_law_cell [.lst (ns.map .int), .int ((i : Int) + 1)] = .ok (.int (cellI ns (i + 1))) [] := cell_of ns _ (i + 1) (by omega)
  have c3 : ∀ k : Nat, F_law_cell [.lst (ns.map .int), .int ((i : Int) + 2 + (k : Int))] = .ok (.int (cellI ns (i + 2 + k))) [] := fun k => cell_of ns _ (i + 2 + k) (by omega)
  walk_at "st"
  rw [hcast]
  -- the sizes
  with_reducible refine' wp_asg (d := .lst ((sizesN ns i).map natD)) ?k1 ?k2 ?k3 ?_
  case k1 =>
    refine' ev_fz ?f1 ?f2 ?f3
    case f1 =>
      with_reducible refine' ev_comp0 (enc := fun k : Nat => D.int (k : Int)) (xs := List.range (cntN ns i)) (g := fun k : Nat => D.int (1 + (mixN (cellI ns i) k : Int) % 3)) ?a1 ?a2 ?a3 ?a4 ?b1 ?b2 ?b3 ?b4 ?a5
      case a1 => walk_at "el"
      case a2 => exact it_rngN rfl (by omega)
      case a3 => walk_at "still"
      case a4 => rw [List.length_range]; omega
      case b1 => rfl
      case b2 => rfl
      case b3 => rfl
      case b4 => rfl
      case a5 =>
        intro x hx
        refine ⟨_, rfl, rfl, ?_, rfl⟩
        walk_at "env"
        walk_at "ev"
    case f2 => rfl
    case f3 =>
      refine (frz_mls (stills_map (fun _ => rfl) _)).trans (congrArg D.lst ?_)
      unfold sizesN
      rw [List.map_map]
      exact List.map_congr_left fun k _ => by show D.int _ = D.int _; congr 1
  case k2 => rfl
  case k3 => rfl
  walk_at "env"
  -- the cells
  with_reducible refine' wp_asg (d := .lst ((cellsN ns i).map encCell)) ?k1 ?k2 ?k3 ?_
  case k1 =>
    refine' ev_fz ?f1 ?f2 ?f3
    case f1 =>
      with_reducible refine' ev_comp0 (enc := fun k : Nat => D.int (k : Int)) (xs := List.range (cntN ns i)) (g := fun k : Nat => D.tup [.str (abcN (k : Int).toNat), natD ((sizesN ns i).getD (k : Int).toNat default)]) ?a1 ?a2 ?a3 ?a4 ?b1 ?b2 ?b3 ?b4 ?a5
      case a1 => walk_at "el"
      case a2 => exact it_rngN rfl (by omega)
      case a3 => walk_at "still"
      case a4 => rw [List.length_range]; omega
      case b1 => rfl
      case b2 => exact Bool.true_or _
      case b3 => rfl
      case b4 => rfl
      case a5 =>
        intro x hx
        have hx := List.mem_range.mp hx
        refine ⟨_, rfl, rfl, ?_, rfl⟩
        walk_at "env"
        walk_at "ev"
    case f2 => rfl
    case f3 =>
      refine (frz_mls (stills_map (fun _ => rfl) _)).trans (congrArg D.lst ?_)
      unfold cellsN
      rw [List.map_map]
      exact List.map_congr_left fun k _ => by simp only [Int.toNat_natCast]; rfl
  case k2 => rfl
  case k3 => rfl
  walk_at "env"
  walk_at "st"
  -- the deeds
  have hmod : 0 ≤ cellI ns (i + 1) % ((m : Int) + 1) ∧ cellI ns (i + 1) % ((m : Int) + 1) < 10 := by
    have h1 := Int.emod_nonneg (cellI ns (i + 1)) (show (m : Int) + 1 ≠ 0 by omega)
    have h2 := Int.emod_lt_of_pos (cellI ns (i + 1)) (show (0 : Int) < (m : Int) + 1 by omega)
    omega
  have hcell : ((cellsN ns i).map encCell).length = cntN ns i := by simp [cellsN]
  generalize hdl : (cellI ns (i + 1) % ((m : Int) + 1)).toNat = dl
  with_reducible refine' wp_for (α := _) (enc := fun k : Nat => D.int (k : Int)) (xs := List.range dl) (fun pre ρ => ∃ x7, ρ = [some (.lst (ns.map .int)), some (.int (i : Int)), some (.int (m : Int)), some (natD (cntN ns i)), some (.lst ((sizesN ns i).map natD)), some (.lst ((cellsN ns i).map encCell)), some (.mls ((pre.map fun k => deedN (cellI ns (i + 2 + k)) (sizesN ns i) k).map encDeed)), x7, none, none]) ?a1 ?a2 ?a3 ?a4 ?a5 ?a6 ?a7
  case a1 => walk_at "el"
  case a2 => rw [← hdl]; exact it_rng (by omega)
  case a3 => walk_at "still"
  case a4 => walk_at "place"
  case a5 => exact ⟨_, rfl⟩
  case a6 =>
    rintro pre x post ρ hx ⟨x7, rfl⟩
    obtain ⟨rfl, hlt⟩ := pre_range hx
    have c4 := c3 x
    have c5 := e_law_deed (cellI ns (i + 2 + x)) (sizesN ns i) x hss (by omega) (by omega) (by omega) (by omega)
    rw [Int.toNat_natCast] at c5
    refine ⟨_, rfl, ?_⟩
    walk_at "env"
    walk_at "st"
    walk_at "st"
    walk_at "fin"
    exact acc_snoc rfl
  case a7 =>
    rintro ρ ⟨x7, rfl⟩
    walk_at "st"
    with_reducible refine' wp_for (α := _) (enc := fun k : Nat => D.int (k : Int)) (xs := List.range (cntN ns i)) (fun pre ρ => ∃ x7 x9, ρ = [some (.lst (ns.map .int)), some (.int (i : Int)), some (.int (m : Int)), some (natD (cntN ns i)), some (.lst ((sizesN ns i).map natD)), some (.lst ((cellsN ns i).map encCell)), some (.mls (((List.range dl).map fun k => deedN (cellI ns (i + 2 + k)) (sizesN ns i) k).map encDeed)), x7, some (.mls ((pre.map (firstAt (cellI ns (i + 1)) (sizesN ns i))).map natD)), x9]) ?c1 ?c2 ?c3 ?c4 ?c5 ?c6 ?c7
    case c1 => walk_at "el"
    case c2 => exact it_rngN rfl (by omega)
    case c3 => walk_at "still"
    case c4 => walk_at "place"
    case c5 => exact ⟨_, _, rfl⟩
    case c6 =>
      rintro pre x post ρ hx ⟨x7, x9, rfl⟩
      obtain ⟨rfl, hlt⟩ := pre_range hx
      have hlx : (List.range x).length ≤ 1000 := by simp; omega
      have hsz := hss.at_ (show x < (sizesN ns i).length by omega)
      have e : ((x : Int)).toNat = x := Int.toNat_natCast x
      have hsz' : 1 ≤ (sizesN ns i).getD ((x : Int)).toNat default ∧ (sizesN ns i).getD ((x : Int)).toNat default ≤ 16 := by rw [e]; exact hsz
      refine ⟨_, rfl, ?_⟩
      walk_at "env"
      walk_at "st"
      walk_at "st"
      · rename_i h
        walk_at "st"
        walk_at "st"
        walk_at "st"
        walk_at "fin"
        refine acc_snoc ?_
        unfold firstAt
        rw [if_pos h, e, toNat_mod]
        exact (congrArg D.int natPow_cast).symm
      · rename_i h
        walk_at "st"
        walk_at "st"
        walk_at "fin"
        refine acc_snoc ?_
        unfold firstAt
        rw [if_neg (by omega), e]; rfl
    case c7 =>
      rintro ρ ⟨x7, x9, rfl⟩
      walk_at "st"
      have em : ((m + 1 : Nat) : Int) = (m : Int) + 1 := by omega
      unfold deedsN firstN
      rw [em, hdl]

/-! ### the machine made -/
local macro_rules | `(tactic| walk_at "ev1") => `(tactic| first
  | ((with_reducible refine' ev_callB (f := _) (ms := _) ?k0 ?k1 ?k2 ?k3 ?k4 ?k5 ?k6 ?k7); (case k0 => rfl); (case k1 => rfl); (case k2 => rfl); (case k3 => rfl); (case k4 => walk_at "ea"); (case k5 => rfl); (case k6 => walk_at "call"); (case k7 => rfl))
  | ((with_reducible refine' ev_make (f := _) ?k0 ?k1 ?k2 ?k3 ?k4); (case k0 => rfl); (case k1 => rfl); (case k2 => rfl); (case k3 => walk_at "ea"); (case k4 => walk_at "call"))
  | walk_at "ev2")
theorem op_neSL {a b : Str} (h : PyData.strOk a = true) (k : PyData.strOk b = true) : opD .ne [.str a, .str b] = some (.bl (!decide (a = b))) := op_ne EncP.str (toPy_str a) (toPy_str b) (by decide) h k
local macro_rules | `(tactic| walk_at "op2") => `(tactic| first
  | ((with_reducible refine' op_neSL ?k0 ?k1); (case k0 => (decide +kernel)); (case k1 => (decide +kernel)))
  | walk_at "op3")
local macro_rules | `(tactic| walk_at "st1") => `(tactic| first
  | ((with_reducible refine' wp_setfld ?k0 ?k1 ?k2 ?k3 ?_); (case k0 => walk_at "ev"); (case k1 => walk_at "place"); (case k2 => rfl); (case k3 => rfl); walk_at "env")
  | walk_at "st2")
theorem getD_mem {l : List Nat} {k : Nat} (h : k < l.length) : l.getD k 0 ∈ l := by
  rw [List.getD_eq_getElem?_getD, List.getElem?_eq_getElem h]
  exact List.getElem_mem h
def isMaskN (m s : Nat) : Bool := decide (0 < m) && decide (m < 2 ^ s)
theorem e_is_mask (m s : Nat) (hs : s ≤ 64) : F_is_mask [natD m, natD s] = .ok (.bl (isMaskN m s)) [] := by
  unfold F_is_mask b_is_mask
  walk_at "in"
  walk_at "st"
  unfold isMaskN
  have e : ((2 : Int) ^ ((s : Int)).toNat) = ((2 ^ s : Nat) : Int) := by rw [Int.toNat_natCast]; exact (Int.natCast_pow 2 s).symm
  rw [e]
  simp only [Int.natCast_pos, Int.ofNat_lt]
def lastI {β : Type} (pre : List (Nat × β)) : Int := match pre.getLast? with
  | none => -1
  | some p => p.1
theorem lastI_snoc {β : Type} (pre : List (Nat × β)) (x : Nat × β) : lastI (pre ++ [x]) = x.1 := by unfold lastI; simp
theorem lastI_lt {β : Type} {pre post : List (Nat × β)} {x : Nat × β} (h : ((pre ++ x :: post).map (·.1)).Pairwise (· < ·)) : lastI pre < x.1 := by
  unfold lastI
  cases e : pre.getLast? with
  | none => dsimp only; omega
  | some p =>
    have hp : p ∈ pre := List.mem_of_getLast? e
    rw [List.map_append, List.pairwise_append] at h
    have := h.2.2 p.1 (List.mem_map.mpr ⟨p, hp, rfl⟩) x.1 (by simp)
    dsimp only
    omega
/-- places that ascend and exist -/
def Asc {β : Type} (ps : List (Nat × β)) (n : Nat) : Prop := (ps.map (·.1)).Pairwise (· < ·) ∧ ∀ p ∈ ps, p.1 < n
theorem e_check_order {β : Type} (g : β → D) (hg : ∀ b, still (g b) = true) (ps : List (Nat × β)) (n : Nat) (h : Asc ps n) : F_check_order [.tup (ps.map fun p => D.tup [natD p.1, g p.2]), natD n] = .ok .non [] := by
  have hst : ∀ p : Nat × β, still (D.tup [natD p.1, g p.2]) = true := fun p => by rw [still_tup, stills_cons, stills_cons, hg]; rfl
  have hpt : still (D.tup (ps.map fun p => D.tup [natD p.1, g p.2])) = true := by rw [still_tup]; exact stills_map hst _
  unfold F_check_order b_check_order
  walk_at "in"
  walk_at "st"
  with_reducible refine' wp_for (enc := fun p : Nat × β => D.tup [natD p.1, g p.2]) (xs := ps) (fun pre ρ => ∃ x3 x4, ρ = [some (.tup (ps.map fun p => D.tup [natD p.1, g p.2])), some (natD n), some (.int (lastI pre)), x3, x4]) ?a1 ?a2 ?a3 ?a4 ?a5 ?a6 ?a7
  case a1 => walk_at "el"
  case a2 => rfl
  case a3 => exact stills_map hst _
  case a4 => walk_at "place"
  case a5 => exact ⟨_, _, rfl⟩
  case a6 =>
    rintro pre x post ρ hx ⟨x3, x4, rfl⟩
    have h1 := lastI_lt (hx ▸ h.1)
    have h2 := h.2 x (by rw [hx]; simp)
    refine ⟨_, rfl, ?_⟩
    walk_at "env"
    walk_at "st"
    · rename_i q
      omega
    · walk_at "st"
      walk_at "st"
      rw [lastI_snoc]
      exact ⟨_, _, rfl⟩
  case a7 =>
    rintro ρ ⟨x3, x4, rfl⟩
    walk_at "st"

theorem e_Machine_check_deed (sf : D) (sizes : List Nat) (d : Deed) (hs : ∀ s ∈ sizes, s ≤ 64) (hg : ∀ p ∈ d.guard, p.1 < sizes.length ∧ isMaskN p.2 (sizes.getD p.1 0) = true)
    (hc : ∀ p ∈ d.chg, p.1 < sizes.length ∧ match p.2 with | .set v => v < sizes.getD p.1 0 | .cp k => k < sizes.length ∧ sizes.getD k 0 ≤ sizes.getD p.1 0) :
    F_Machine_check_deed [sf, .lst (sizes.map natD), .tup (d.guard.map encG), .tup (d.chg.map encC)] = .ok .non [] := by
  have hgt : still (D.tup (d.guard.map encG)) = true := by rw [still_tup]; exact stills_map still_encG _
  have hct : still (D.tup (d.chg.map encC)) = true := by rw [still_tup]; exact stills_map still_encC _
  unfold F_Machine_check_deed b_Machine_check_deed
  walk_at "in"
  with_reducible refine' wp_for (enc := encG) (xs := d.guard) (fun pre ρ => ∃ x4 x5, ρ = [some sf, some (.lst (sizes.map natD)), some (.tup (d.guard.map encG)), some (.tup (d.chg.map encC)), x4, x5, none, none]) ?a1 ?a2 ?a3 ?a4 ?a5 ?a6 ?a7
  case a1 => walk_at "el"
  case a2 => rfl
  case a3 => exact stills_map still_encG _
  case a4 => walk_at "place"
  case a5 => exact ⟨_, _, rfl⟩
  case a6 =>
    rintro pre ⟨k, m⟩ post ρ hx ⟨x4, x5, rfl⟩
    obtain ⟨h1, h2⟩ := hg (k, m) (by rw [hx]; simp)
    have h1 : k < sizes.length := h1
    have h3 := e_is_mask m (sizes.getD k 0) (by
      exact hs _ (getD_mem h1))
    rw [show isMaskN m (sizes.getD k 0) = true from h2] at h3
    refine ⟨_, rfl, ?_⟩
    walk_at "env"
    walk_at "st"
    · walk_at "st"
      exact ⟨_, _, rfl⟩
  case a7 =>
    rintro ρ ⟨x4, x5, rfl⟩
    with_reducible refine' wp_for (enc := encC) (xs := d.chg) (fun pre ρ => ∃ x4 x6 x7, ρ = [some sf, some (.lst (sizes.map natD)), some (.tup (d.guard.map encG)), some (.tup (d.chg.map encC)), x4, x5, x6, x7]) ?b1 ?b2 ?b3 ?b4 ?b5 ?b6 ?b7
    case b1 => walk_at "el"
    case b2 => rfl
    case b3 => exact stills_map still_encC _
    case b4 => walk_at "place"
    case b5 => exact ⟨_, _, _, rfl⟩
    case b6 =>
      rintro pre ⟨k, src⟩ post ρ hx ⟨x4, x6, x7, rfl⟩
      obtain ⟨h1, h2⟩ := hc (k, src) (by rw [hx]; simp)
      have h1 : k < sizes.length := h1
      cases src with
      | set v =>
        have h2 : v < sizes.getD k 0 := h2
        refine ⟨_, rfl, ?_⟩
        walk_at "env"
        walk_at "st"
        · walk_at "st"
          exact ⟨_, _, _, rfl⟩
        · rename_i q
          rw [List.getD_eq_getElem?_getD] at h2
          omega
      | cp j =>
        have h2 : j < sizes.length ∧ sizes.getD j 0 ≤ sizes.getD k 0 := h2
        obtain ⟨h2, h3⟩ := h2
        refine ⟨_, rfl, ?_⟩
        walk_at "env"
        walk_at "st"
        · rename_i q
          exact absurd q.1 (by decide)
        walk_at "st"
        · rename_i q
          rw [List.getD_eq_getElem?_getD, List.getD_eq_getElem?_getD] at h3
          omega
        · walk_at "st"
          exact ⟨_, _, _, rfl⟩
    case b7 =>
      rintro ρ ⟨x4, x6, x7, rfl⟩
      walk_at "st"

/-- a machine as an instance -/
def encM (cells : List (Str × Nat)) (deeds : List Deed) (first : List Nat) : D := .ins 15 ["cells", "deeds", "first"] [.tup (cells.map encCell), .tup (deeds.map encDeed), tupN first]
def encMm (cells : List (Str × Nat)) (deeds : List Deed) (first : List Nat) : D := .mns 15 ["cells", "deeds", "first"] [.tup (cells.map encCell), .tup (deeds.map encDeed), tupN first]
structure DeedFit (sizes : List Nat) (d : Deed) : Prop where
  ga : Asc d.guard sizes.length
  ca : Asc d.chg sizes.length
  gm : ∀ p ∈ d.guard, isMaskN p.2 (sizes.getD p.1 0) = true
  cm : ∀ p ∈ d.chg, match p.2 with | .set v => v < sizes.getD p.1 0 | .cp k => k < sizes.length ∧ sizes.getD k 0 ≤ sizes.getD p.1 0
structure MachFit (cells : List (Str × Nat)) (deeds : List Deed) (first : List Nat) : Prop where
  c1 : 1 ≤ cells.length
  c2 : cells.length ≤ 24
  dl : deeds.length ≤ 400
  cn : F_check_names [.lst (cells.map fun p => D.str p.1)] = .ok .non []
  dn : F_check_names [.lst (deeds.map fun d => D.str d.name)] = .ok .non []
  sz : ∀ p ∈ cells, 1 ≤ p.2 ∧ p.2 ≤ 16
  df : ∀ d ∈ deeds, DeedFit (cells.map (·.2)) d
  fl : first.length = cells.length
  fm : ∀ p ∈ first.zip (cells.map (·.2)), isMaskN p.1 p.2 = true
def slStill (x : Option D) : Bool := match x with
  | some d => still d
  | none => true
theorem e_Machine_init (cells : List (Str × Nat)) (deeds : List Deed) (first : List Nat) (M : MachFit cells deeds first) :
    F_Machine_init [.mns 15 [] [], .lst (cells.map encCell), .lst (deeds.map encDeed), tupN first] = .ok .non [encMm cells deeds first] := by
  have hc2 := M.c2
  have hc1 := M.c1
  have hdl := M.dl
  have hfl := M.fl
  unfold F_Machine_init b_Machine_init
  walk_at "inm"
  have hcs : stills (cells.map encCell) = true := stills_map still_encCell _
  have hds : stills (deeds.map encDeed) = true := stills_map still_encDeed _
  have hszl : (cells.map (·.2)).length = cells.length := List.length_map ..
  walk_at "st"
  · rename_i q
    omega
  -- the cells' names
  with_reducible refine' wp_expr (d := .non) ?k1 ?_
  case k1 =>
    refine' ev_call (f := _) (ms := _) rfl rfl rfl (ea_cons rfl ?e1 ?e2 ?e3 rfl ea_nil) rfl M.cn
    case e1 =>
      with_reducible refine' ev_comp0 (enc := encCell) (xs := cells) (g := fun p => D.str p.1) ?a1 ?a2 ?a3 ?a4 ?b1 ?b2 ?b3 ?b4 ?a5
      case a1 => walk_at "el"
      case a2 => rfl
      case a3 => walk_at "still"
      case a4 => omega
      case b1 => rfl
      case b2 => rfl
      case b3 => rfl
      case b4 => rfl
      case a5 =>
        intro x hx
        refine ⟨_, rfl, rfl, ?_, rfl⟩
        walk_at "env"
        walk_at "ev"
    case e2 => walk_at "frz"
    case e3 => walk_at "place"
  walk_at "env"
  -- the sizes
  with_reducible refine' wp_asg (d := .lst ((cells.map (·.2)).map natD)) ?k1 ?k2 ?k3 ?_
  case k1 =>
    refine' ev_fz ?f1 ?f2 ?f3
    case f1 =>
      with_reducible refine' ev_comp0 (enc := encCell) (xs := cells) (g := fun p => natD p.2) ?a1 ?a2 ?a3 ?a4 ?b1 ?b2 ?b3 ?b4 ?a5
      case a1 => walk_at "el"
      case a2 => rfl
      case a3 => walk_at "still"
      case a4 => omega
      case b1 => rfl
      case b2 => rfl
      case b3 => rfl
      case b4 => rfl
      case a5 =>
        intro x hx
        refine ⟨_, rfl, rfl, ?_, rfl⟩
        walk_at "env"
        walk_at "ev"
    case f2 => rfl
    case f3 =>
      refine (frz_mls (stills_map (fun _ => rfl) _)).trans (congrArg D.lst ?_)
      rw [List.map_map]; rfl
  case k2 => rfl
  case k3 => rfl
  walk_at "env"
  have hall : ((cells.map (·.2)).all fun k : Nat => decide ((1 : Int) ≤ k) && decide ((k : Int) ≤ 16)) = true := List.all_eq_true.mpr fun k hk => by
    obtain ⟨p, hp, rfl⟩ := List.mem_map.mp hk
    have := M.sz p hp
    simp only [Bool.and_eq_true, decide_eq_true_eq]
    omega
  with_reducible refine' wp_ifs (p := !((cells.map (·.2)).all fun k : Nat => decide ((1 : Int) ≤ k) && decide ((k : Int) ≤ 16))) ?k1 ?k2 ?k3 ?k4
  case k1 =>
    refine' ev_not (d := .bl ((cells.map (·.2)).all fun k : Nat => decide ((1 : Int) ≤ k) && decide ((k : Int) ≤ 16))) (ev_op (el_cons ?e1 rfl ?e2 el_nil) op_all) rfl
    case e1 =>
      with_reducible refine' ev_comp0 (enc := natD) (xs := cells.map (·.2)) (g := fun k : Nat => D.bl (decide (1 ≤ (k : Int)) && decide ((k : Int) ≤ 16))) ?a1 ?a2 ?a3 ?a4 ?b1 ?b2 ?b3 ?b4 ?a5
      case a1 => walk_at "el"
      case a2 => rfl
      case a3 => walk_at "still"
      case a4 => omega
      case b1 => rfl
      case b2 => rfl
      case b3 => rfl
      case b4 => rfl
      case a5 =>
        intro x hx
        refine ⟨_, rfl, rfl, ?_, rfl⟩
        walk_at "env"
        walk_at "ev"
    case e2 => walk_at "place"
  case k2 => rfl
  case k3 => intro q; rw [hall] at q; cases q
  intro _
  walk_at "env"
  -- the deeds' names
  with_reducible refine' wp_expr (d := .non) ?k1 ?_
  case k1 =>
    refine' ev_call (f := _) (ms := _) rfl rfl rfl (ea_cons rfl ?e1 ?e2 ?e3 rfl ea_nil) rfl M.dn
    case e1 =>
      with_reducible refine' ev_comp0 (enc := encDeed) (xs := deeds) (g := fun d => D.str d.name) ?a1 ?a2 ?a3 ?a4 ?b1 ?b2 ?b3 ?b4 ?a5
      case a1 => walk_at "el"
      case a2 => rfl
      case a3 => walk_at "still"
      case a4 => omega
      case b1 => rfl
      case b2 => rfl
      case b3 => rfl
      case b4 => rfl
      case a5 =>
        intro x hx
        refine ⟨_, rfl, rfl, ?_, rfl⟩
        walk_at "env"
        walk_at "ev"
    case e2 => walk_at "frz"
    case e3 => walk_at "place"
  walk_at "env"
  with_reducible refine' wp_for (enc := encDeed) (xs := deeds) (fun pre ρ => ∃ x5 x6 x7, (slStill x6 = true ∧ slStill x7 = true) ∧ ρ = [some (.mns 15 [] []), some (.lst (cells.map encCell)), some (.lst (deeds.map encDeed)), some (tupN first), some (.lst ((cells.map (·.2)).map natD)), x5, x6, x7, none, none, none, none]) ?a1 ?a2 ?a3 ?a4 ?a5 ?a6 ?a7
  case a1 => walk_at "el"
  case a2 => rfl
  case a3 => exact hds
  case a4 => walk_at "place"
  case a5 => exact ⟨_, _, _, ⟨rfl, rfl⟩, rfl⟩
  case a6 =>
    rintro pre x post ρ hx ⟨x5, x6, x7, hsl, rfl⟩
    have F := M.df x (by rw [hx]; simp)
    have o1 : F_check_order [.tup (x.guard.map encG), .int (((cells.map encCell).length : Nat) : Int)] = .ok .non [] := by
      rw [List.length_map, ← hszl]
      exact e_check_order natD (fun _ => rfl) x.guard _ F.ga
    have o2 : F_check_order [.tup (x.chg.map encC), .int (((cells.map encCell).length : Nat) : Int)] = .ok .non [] := by
      rw [List.length_map, ← hszl]
      exact e_check_order encS still_encS x.chg _ F.ca
    have o3 := e_Machine_check_deed (.ins 15 [] []) (cells.map (·.2)) x (fun s hs => by
      obtain ⟨p, hp, rfl⟩ := List.mem_map.mp hs
      have := M.sz p hp
      omega) (fun p hp => ⟨F.ga.2 p hp, F.gm p hp⟩) (fun p hp => ⟨F.ca.2 p hp, F.cm p hp⟩)
    refine ⟨_, rfl, ?_⟩
    walk_at "env"
    walk_at "st"
    walk_at "st"
    walk_at "st"
    walk_at "st"
    refine ⟨_, _, _, ⟨?_, ?_⟩, rfl⟩
    · show still (.tup (x.guard.map encG)) = true
      rw [still_tup]; exact stills_map still_encG _
    · show still (.tup (x.chg.map encC)) = true
      rw [still_tup]; exact stills_map still_encC _
  case a7 =>
    rintro ρ ⟨x5, x6, x7, ⟨hs6, hs7⟩, rfl⟩
    have hm : ((first.zip (cells.map (·.2))).all fun p : Nat × Nat => isMaskN p.1 p.2) = true := List.all_eq_true.mpr M.fm
    have hzl : (first.zip (cells.map (·.2))).length ≤ 24 := by rw [List.length_zip, hszl]; omega
    have hzs : stills ((first.zip (cells.map (·.2))).map encG) = true := stills_map still_encG _
    with_reducible refine' wp_ifs (p := false || !((first.zip (cells.map (·.2))).all fun p : Nat × Nat => isMaskN p.1 p.2)) ?z1 ?z2 ?z3 ?z4
    case z1 =>
      refine' ev_or (p := false) ?o1 ?o2
      case o1 =>
        have e : ((first.map natD).length : Int) = ((cells.map encCell).length : Nat) := by rw [List.length_map, List.length_map, hfl]
        refine' ev_op (el_cons (ev_op (el_cons (ev_var rfl) rfl ?p1 el_nil) op_lenT) rfl ?p2 (el_cons (ev_op (el_cons (ev_var rfl) rfl ?p3 el_nil) op_lenL) rfl ?p4 el_nil)) ?p5
        case p1 => walk_at "place"
        case p2 => walk_at "place"
        case p3 => walk_at "place"
        case p4 => walk_at "place"
        case p5 =>
          rw [op_neI, e]
          simp
      case o2 =>
        intro _
        refine' ev_not (d := .bl ((first.zip (cells.map (·.2))).all fun p : Nat × Nat => isMaskN p.1 p.2)) (ev_op (el_cons ?w1 rfl ?w2 el_nil) op_all) rfl
        case w1 =>
          with_reducible refine' ev_comp0 (enc := encG) (xs := first.zip (cells.map (·.2))) (g := fun p : Nat × Nat => D.bl (isMaskN p.1 p.2)) ?y1 ?y2 ?y3 ?y4 ?b1 ?b2 ?b3 ?b4 ?y5
          case y1 => walk_at "el"
          case y2 => exact it_zipTL (stills_map (fun _ => rfl) _) (stills_map (fun _ => rfl) _)
          case y3 => exact hzs
          case y4 => omega
          case b1 => rfl
          case b2 => walk_at "place"
          case b3 => rfl
          case b4 => rfl
          case y5 =>
            intro x hx
            have h2 : x.2 ∈ cells.map (·.2) := (List.of_mem_zip hx).2
            have h3 : x.2 ≤ 64 := by
              obtain ⟨p, hp, e⟩ := List.mem_map.mp h2
              have := M.sz p hp
              omega
            have h4 := e_is_mask x.1 x.2 h3
            refine ⟨_, rfl, rfl, ?_, rfl⟩
            walk_at "env"
            walk_at "ev"
        case w2 => walk_at "place"
    case z2 => rfl
    case z3 => intro q; rw [hm] at q; cases q
    intro _
    walk_at "env"
    with_reducible refine' wp_setfld (d := .tup (cells.map (fun p : Str × Nat => D.tup [.str p.1, natD p.2]))) ?u1 ?u2 ?u3 ?u4 ?_
    case u1 =>
      refine' ev_op (el_cons ?c1 rfl ?c2 el_nil) (op_tupleM ?c3)
      case c1 =>
        with_reducible refine' ev_comp0 (enc := encCell) (xs := cells) (g := fun p : Str × Nat => D.tup [.str p.1, natD p.2]) ?f1 ?f2 ?f3 ?f4 ?fb1 ?fb2 ?fb3 ?fb4 ?f5
        case f1 => walk_at "el"
        case f2 => rfl
        case f3 => walk_at "still"
        case f4 => omega
        case fb1 => rfl
        case fb2 => rfl
        case fb3 => rfl
        case fb4 => rfl
        case f5 =>
          intro x hx
          refine ⟨_, rfl, rfl, ?_, rfl⟩
          walk_at "env"
          walk_at "ev"
      case c2 => walk_at "place"
      case c3 => exact hcs
    case u2 => rfl
    case u3 => rfl
    case u4 => rfl
    walk_at "env"
    with_reducible refine' wp_setfld (d := .tup (deeds.map (fun d : Deed => D.tup [.str d.name, .tup (d.guard.map encG), .tup (d.chg.map encC)]))) ?v1 ?v2 ?v3 ?v4 ?_
    case v1 =>
      refine' ev_op (el_cons ?d1 rfl ?d2 el_nil) (op_tupleM ?d3)
      case d1 =>
        with_reducible refine' ev_comp0 (enc := encDeed) (xs := deeds) (g := fun d : Deed => D.tup [.str d.name, .tup (d.guard.map encG), .tup (d.chg.map encC)]) ?g1 ?g2 ?g3 ?g4 ?gb1 ?gb2 ?gb3 ?gb4 ?g5
        case g1 => walk_at "el"
        case g2 => rfl
        case g3 => exact hds
        case g4 => omega
        case gb1 =>
          unfold slStill at hs6 hs7
          unfold ownOk
          simp only [List.all_cons, List.all_nil, List.getElem?_cons_zero, List.getElem?_cons_succ, Bool.and_true, Bool.true_and]
          cases x6 <;> cases x7 <;> simp_all
        case gb2 => exact Bool.true_or _
        case gb3 => rfl
        case gb4 => rfl
        case g5 =>
          intro x hx
          have hg1 : stills (x.guard.map encG) = true := stills_map still_encG _
          have hg2 : stills (x.chg.map encC) = true := stills_map still_encC _
          refine ⟨_, rfl, rfl, ?_, rfl⟩
          walk_at "env"
          walk_at "ev"
      case d2 => walk_at "place"
      case d3 => exact hds
    case v2 => rfl
    case v3 => rfl
    case v4 => rfl
    walk_at "env"
    walk_at "st"
    walk_at "st"
    exact ⟨rfl, rfl⟩

/-! ### the drawn machine is one -/
theorem names_abc (n : Nat) (h : n ≤ 4) : F_check_names [.lst ((List.range n).map fun k => D.str (abcN k))] = .ok .non [] := by
  have : n = 0 ∨ n = 1 ∨ n = 2 ∨ n = 3 ∨ n = 4 := by omega
  unfold F_check_names
  rcases this with rfl | rfl | rfl | rfl | rfl <;> with_unfolding_all rfl
theorem names_m (n : Nat) (h : n ≤ 9) : F_check_names [.lst ((List.range n).map fun k => D.str (mName k))] = .ok .non [] := by
  have : n = 0 ∨ n = 1 ∨ n = 2 ∨ n = 3 ∨ n = 4 ∨ n = 5 ∨ n = 6 ∨ n = 7 ∨ n = 8 ∨ n = 9 := by omega
  unfold F_check_names
  rcases this with rfl | rfl | rfl | rfl | rfl | rfl | rfl | rfl | rfl | rfl <;> with_unfolding_all rfl
theorem fm_asc {β : Type} (f : Nat → Option (Nat × β)) (hf : ∀ k p, f k = some p → p.1 = k) (n : Nat) : Asc ((List.range n).filterMap f) n := by
  constructor
  · rw [List.map_filterMap]
    have : (List.range n).filterMap (fun x => (f x).map (·.1)) = (List.range n).filter fun x => (f x).isSome := by
      induction List.range n with
      | nil => rfl
      | cons a l ih =>
        rw [List.filterMap_cons, List.filter_cons]
        cases e : f a with
        | none => simpa using ih
        | some p => simp [hf a p e, ih]
    rw [this]
    exact List.Pairwise.filter _ List.pairwise_lt_range
  · intro p hp
    obtain ⟨k, hk, e⟩ := List.mem_filterMap.mp hp
    rw [hf k p e]
    exact List.mem_range.mp hk
theorem isMask_maskN (c : Int) (s : Nat) (hs : 1 ≤ s) : isMaskN (maskN c s) s = true := by
  have := maskN_lt (n := c) hs
  unfold isMaskN
  simp only [Bool.and_eq_true, decide_eq_true_eq]
  exact this
theorem deedN_fit (c : Int) (sizes : List Nat) (n : Nat) (hs : ∀ s ∈ sizes, 1 ≤ s) : DeedFit sizes (deedN c sizes n) := by
  have g1 : ∀ k p, guardAt c sizes k = some p → p.1 = k ∧ p.2 = maskN (mixN c (4 * k + 1)) (sizes.getD k 0) := by
    intro k p h
    unfold guardAt at h
    split at h
    · cases h; exact ⟨rfl, rfl⟩
    · cases h
  have c1 : ∀ k p, chgAt c sizes k = some p → p.1 = k := by
    intro k p h
    unfold chgAt at h
    split at h
    · cases h; rfl
    · split at h
      · cases h; rfl
      · cases h
  refine ⟨fm_asc _ (fun k p h => (g1 k p h).1) _, fm_asc _ c1 _, fun p hp => ?_, fun p hp => ?_⟩
  · obtain ⟨k, hk, e⟩ := List.mem_filterMap.mp hp
    obtain ⟨h1, h2⟩ := g1 k p e
    rw [h1, h2]
    exact isMask_maskN _ _ (hs _ (getD_mem (List.mem_range.mp hk)))
  · obtain ⟨k, hk, e⟩ := List.mem_filterMap.mp hp
    have hk := List.mem_range.mp hk
    have h1 := hs _ (getD_mem hk)
    unfold chgAt at e
    split at e
    · cases e
      exact Nat.mod_lt _ (by omega)
    · split at e
      · rename_i q
        cases e
        exact ⟨Nat.mod_lt _ (by omega), q.2⟩
      · cases e
theorem cellsN_sizes (ns : List Int) (i : Nat) : (cellsN ns i).map (·.2) = sizesN ns i := by
  unfold cellsN
  rw [List.map_map]
  refine List.ext_getElem? fun k => ?_
  have hl := sizesN_len ns i
  rw [List.getElem?_map]
  by_cases h : k < cntN ns i
  · rw [List.getElem?_range h, List.getElem?_eq_getElem (by omega)]
    simp only [Option.map_some, Function.comp]
    rw [List.getD_eq_getElem?_getD, List.getElem?_eq_getElem (by omega)]; rfl
  · rw [List.getElem?_eq_none (by simp; omega), List.getElem?_eq_none (by omega)]; rfl
theorem drawn_fit (ns : List Int) (i : Nat) (ds : List Deed) (hd : ∀ d ∈ ds, DeedFit (sizesN ns i) d) (hl : ds.length ≤ 9) (hn : ds.map (·.name) = (List.range ds.length).map mName) : MachFit (cellsN ns i) ds (firstN ns i) where
  c1 := by unfold cellsN; rw [List.length_map, List.length_range]; exact (cntN_le ns i).1
  c2 := by unfold cellsN; rw [List.length_map, List.length_range]; have := (cntN_le ns i).2; omega
  dl := by omega
  cn := by
    have := names_abc (cntN ns i) (cntN_le ns i).2
    unfold cellsN
    rw [List.map_map]
    exact this
  dn := by
    have := names_m ds.length hl
    have e : ds.map (fun d => D.str d.name) = (List.range ds.length).map fun k => D.str (mName k) := by
      rw [show (fun d : Deed => D.str d.name) = D.str ∘ (·.name) from rfl, ← List.map_map, hn, List.map_map]; rfl
    rw [e]; exact this
  sz := fun p hp => by
    have : p.2 ∈ sizesN ns i := by rw [← cellsN_sizes]; exact List.mem_map.mpr ⟨p, hp, rfl⟩
    have := sizesN_ok ns i p.2 this
    omega
  df := by rw [cellsN_sizes]; exact hd
  fl := by unfold firstN cellsN; simp
  fm := by
    rw [cellsN_sizes]
    intro p hp
    obtain ⟨k, hk, e⟩ := List.getElem_of_mem hp
    rw [List.length_zip, sizesN_len] at hk
    have hk1 : k < cntN ns i := by omega
    have hk2 : k < (sizesN ns i).length := by rw [sizesN_len]; exact hk1
    rw [List.getElem_zip] at e
    have e1 : p.1 = firstAt (cellI ns (i + 1)) (sizesN ns i) k := by rw [← e]; unfold firstN; simp
    have e2 : p.2 = (sizesN ns i).getD k 0 := by rw [← e, List.getD_eq_getElem?_getD, List.getElem?_eq_getElem hk2]; rfl
    have h1 := sizesN_ok ns i _ (getD_mem hk2)
    rw [e1, e2]
    unfold firstAt
    split
    · unfold isMaskN
      have hm := Nat.mod_lt (mixN (cellI ns (i + 1)) k) (show 0 < (sizesN ns i).getD k 0 by omega)
      have := Nat.pow_lt_pow_right (show 1 < 2 by omega) hm
      have := Nat.pow_pos (n := mixN (cellI ns (i + 1)) k % (sizesN ns i).getD k 0) (show 0 < 2 by omega)
      simp only [Bool.and_eq_true, decide_eq_true_eq]
      omega
    · exact isMask_maskN _ _ h1.1

/-! ### sketches and deeds of a machine -/
local macro_rules | `(tactic| walk_at "still2") => `(tactic| first
  | with_reducible exact still_encM
  | walk_at "still3")
theorem still_encM {cells : List (Str × Nat)} {deeds : List Deed} {first : List Nat} : still (encM cells deeds first) = true := by
  unfold encM
  rw [still_ins, stills_cons, stills_cons, stills_cons, still_tup, still_tup, stills_map still_encCell, stills_map still_encDeed, still_tupN]; rfl
theorem fld_cells {T : Tab} {ρ ρ1 : Pd.Env} {a : E} {cells : List (Str × Nat)} {deeds : List Deed} {first : List Nat} (he : evE T a ρ = .ok (encM cells deeds first) ρ1) (hf : T.flds.contains (15, "cells") = true) : evE T (.fld a "cells") ρ = .ok (.tup (cells.map encCell)) ρ1 :=
  ev_fldI he hf rfl
theorem fld_deeds {T : Tab} {ρ ρ1 : Pd.Env} {a : E} {cells : List (Str × Nat)} {deeds : List Deed} {first : List Nat} (he : evE T a ρ = .ok (encM cells deeds first) ρ1) (hf : T.flds.contains (15, "deeds") = true) : evE T (.fld a "deeds") ρ = .ok (.tup (deeds.map encDeed)) ρ1 :=
  ev_fldI he hf rfl
theorem fld_first {T : Tab} {ρ ρ1 : Pd.Env} {a : E} {cells : List (Str × Nat)} {deeds : List Deed} {first : List Nat} (he : evE T a ρ = .ok (encM cells deeds first) ρ1) (hf : T.flds.contains (15, "first") = true) : evE T (.fld a "first") ρ = .ok (tupN first) ρ1 :=
  ev_fldI he hf rfl
local macro_rules | `(tactic| walk_at "ev2") => `(tactic| first
  | ((with_reducible refine' fld_cells ?k0 ?k1); (case k0 => walk_at "ev"); (case k1 => rfl))
  | ((with_reducible refine' fld_deeds ?k0 ?k1); (case k0 => walk_at "ev"); (case k1 => rfl))
  | ((with_reducible refine' fld_first ?k0 ?k1); (case k0 => walk_at "ev"); (case k1 => rfl))
  | walk_at "ev3")
def fullN (sizes : List Nat) : List Nat := sizes.map fun s => 2 ^ s - 1
theorem e_check_deed (cells : List (Str × Nat)) (deeds : List Deed) (first : List Nat) (i : Int) : F_check_deed [encM cells deeds first, .int i] = if i < 0 ∨ deeds.length ≤ i then .exn ⟨4, none⟩ else .ok .non [] := by
  have hm : still (encM cells deeds first) = true := still_encM
  have hd : still (.tup (deeds.map encDeed)) = true := by rw [still_tup]; exact stills_map still_encDeed _
  split
  · rename_i h
    unfold F_check_deed b_check_deed
    walk_at "inx"
    walk_at "st"
    · walk_at "st"
    · rename_i q
      omega
  · rename_i h
    unfold F_check_deed b_check_deed
    walk_at "in"
    walk_at "st"
    · rename_i q
      omega
    · walk_at "st"
/-- a sketch of cells of these sizes -/
def sketchB (sizes s : List Nat) : Bool := decide (s.length = sizes.length) && (s.zip sizes).all fun p => isMaskN p.1 p.2
theorem e_check_sketch (cells : List (Str × Nat)) (deeds : List Deed) (first s : List Nat) (hs : ∀ p ∈ cells, p.2 ≤ 64) : F_check_sketch [encM cells deeds first, tupN s] = if sketchB (cells.map (·.2)) s = true then .ok .non [] else .exn ⟨3, none⟩ := by
  have hm : still (encM cells deeds first) = true := still_encM
  have hcs : still (.tup (cells.map encCell)) = true := by rw [still_tup]; exact stills_map still_encCell _
  have hz : iterD .zip [tupN s, .tup (cells.map encCell)] = some ((s.zip cells).map fun p : Nat × Str × Nat => D.tup [natD p.1, encCell p.2]) := it_zipT (stills_map (fun _ => rfl) _) (stills_map still_encCell _)
  have hzs : stills ((s.zip cells).map fun p : Nat × Str × Nat => D.tup [natD p.1, encCell p.2]) = true := stills_map (fun _ => rfl) _
  have hall : ((s.zip (cells.map (·.2))).all fun p => isMaskN p.1 p.2) = (s.zip cells).all fun p => isMaskN p.1 p.2.2 := by
    rw [List.zip_map_right, List.all_map]; rfl
  unfold sketchB
  rw [hall, List.length_map]
  split
  · rename_i h
    obtain ⟨h1, h2⟩ := Bool.and_eq_true_iff.mp h
    have h1 : s.length = cells.length := of_decide_eq_true h1
    unfold F_check_sketch b_check_sketch
    walk_at "in"
    walk_at "st"
    · rename_i q
      exact absurd h1 (by omega)
    · with_reducible refine' wp_for (enc := fun p : Nat × Str × Nat => D.tup [natD p.1, encCell p.2]) (xs := s.zip cells) (fun pre ρ => ∃ x2 x3 x4, ρ = [some (encM cells deeds first), some (tupN s), x2, x3, x4]) ?a1 ?a2 ?a3 ?a4 ?a5 ?a6 ?a7
      case a1 => walk_at "el"
      case a2 => exact hz
      case a3 => exact hzs
      case a4 => walk_at "place"
      case a5 => exact ⟨_, _, _, rfl⟩
      case a6 =>
        rintro pre x post ρ hx ⟨x2, x3, x4, rfl⟩
        have hxm : x ∈ s.zip cells := by rw [hx]; simp
        have h4 := e_is_mask x.1 x.2.2 (hs x.2 (List.of_mem_zip hxm).2)
        rw [List.all_eq_true.mp h2 x hxm] at h4
        refine ⟨_, rfl, ?_⟩
        walk_at "env"
        walk_at "st"
        walk_at "st"
        exact ⟨_, _, _, rfl⟩
      case a7 =>
        rintro ρ ⟨x2, x3, x4, rfl⟩
        walk_at "st"
  · rename_i h
    unfold F_check_sketch b_check_sketch
    walk_at "inx"
    walk_at "st"
    · walk_at "st"
    · rename_i q
      with_reducible refine' wp_for (enc := fun p : Nat × Str × Nat => D.tup [natD p.1, encCell p.2]) (xs := s.zip cells) (fun pre ρ => (∀ p ∈ pre, isMaskN p.1 p.2.2 = true) ∧ ∃ x2 x3 x4, ρ = [some (encM cells deeds first), some (tupN s), x2, x3, x4]) ?a1 ?a2 ?a3 ?a4 ?a5 ?a6 ?a7
      case a1 => walk_at "el"
      case a2 => exact hz
      case a3 => exact hzs
      case a4 => walk_at "place"
      case a5 => exact ⟨fun _ h => (nomatch h), _, _, _, rfl⟩
      case a6 =>
        rintro pre x post ρ hx ⟨hp, x2, x3, x4, rfl⟩
        have hxm : x ∈ s.zip cells := by rw [hx]; simp
        have h4 := e_is_mask x.1 x.2.2 (hs x.2 (List.of_mem_zip hxm).2)
        refine ⟨_, rfl, ?_⟩
        walk_at "env"
        walk_at "st"
        · walk_at "st"
        · rename_i q
          walk_at "st"
          refine ⟨fun p hp' => ?_, _, _, _, rfl⟩
          rcases List.mem_append.mp hp' with h' | h'
          · exact hp p h'
          · rw [List.mem_singleton.mp h']; simpa using q
      case a7 =>
        rintro ρ ⟨hp, x2, x3, x4, rfl⟩
        refine (h ?_).elim
        rw [Bool.and_eq_true_iff]
        exact ⟨decide_eq_true (by omega), List.all_eq_true.mpr hp⟩

theorem e_Machine_full (cells : List (Str × Nat)) (deeds : List Deed) (first : List Nat) (hs : ∀ p ∈ cells, 1 ≤ p.2 ∧ p.2 ≤ 16) (hl : cells.length ≤ 24) : F_Machine_full [encM cells deeds first] = .ok (tupN (fullN (cells.map (·.2)))) [] := by
  have hcs : stills (cells.map encCell) = true := stills_map still_encCell _
  have hcs' : still (.tup (cells.map encCell)) = true := by rw [still_tup]; exact hcs
  have hr : tupN (fullN (cells.map (·.2))) = .tup (cells.map fun p : Str × Nat => D.int (2 ^ p.2 - 1)) := by
    unfold tupN fullN
    rw [List.map_map, List.map_map]
    refine congrArg D.tup (List.map_congr_left fun p hp => ?_)
    show D.int _ = D.int _
    congr 1
    have := Nat.one_le_two_pow (n := p.2)
    show ((2 ^ p.2 - 1 : Nat) : Int) = _
    rw [Int.natCast_sub this, Int.natCast_pow]; rfl
  rw [hr]
  unfold F_Machine_full b_Machine_full
  walk_at "in"
  with_reducible refine' wp_ret (d := .tup (cells.map fun p : Str × Nat => D.int (2 ^ p.2 - 1))) ?k1 ?k2 ?_
  case k1 =>
    refine' ev_op (el_cons ?c1 rfl ?c2 el_nil) (op_tupleM ?c3)
    case c1 =>
      with_reducible refine' ev_comp0 (enc := encCell) (xs := cells) (g := fun p : Str × Nat => D.int (2 ^ p.2 - 1)) ?g1 ?g2 ?g3 ?g4 ?gb1 ?gb2 ?gb3 ?gb4 ?g5
      case g1 => walk_at "el"
      case g2 => rfl
      case g3 => exact hcs
      case g4 => omega
      case gb1 => rfl
      case gb2 => rfl
      case gb3 => rfl
      case gb4 => rfl
      case g5 =>
        intro x hx
        have := hs x hx
        have e : (2 : Int) ^ ((x.2 : Int)).toNat = 2 ^ x.2 := by rw [Int.toNat_natCast]
        refine ⟨_, rfl, rfl, ?_, rfl⟩
        walk_at "env"
        rw [← e]
        walk_at "ev"
    case c2 => walk_at "place"
    case c3 => exact stills_map (fun _ => rfl) _
  case k2 => rfl
  rfl
theorem at_mls {xs : List Nat} {k : Nat} (h : k < xs.length) : atD (xs.map natD) (k : Int) = some (natD (xs.getD k 0)) := by
  have e : ixD (xs.map natD).length (k : Int) = some k := by
    unfold ixD
    rw [if_pos (by omega), if_pos (by rw [List.length_map]; omega), Int.toNat_natCast]
  unfold atD
  rw [e]
  show (xs.map natD)[k]? = _
  rw [List.getElem?_map, List.getElem?_eq_getElem h, List.getD_eq_getElem?_getD, List.getElem?_eq_getElem h]; rfl
theorem ixD_mls {xs : List Nat} {k : Nat} (h : k < xs.length) : ixD (xs.map natD).length (k : Int) = some k := by
  unfold ixD
  rw [if_pos (by omega), if_pos (by rw [List.length_map]; omega), Int.toNat_natCast]
def fullSt (full : List Nat) (vs : List Nat) (p : Nat × Src) : List Nat := vs.set p.1 (full.getD p.1 0)
def setsOk (s : List Nat) (p : Nat × Src) : Bool := match p.2 with
  | .set v => (s.getD p.1 0).testBit v
  | .cp _ => true
def cpSt (s : List Nat) (vs : List Nat) (p : Nat × Src) : List Nat := match p.2 with
  | .set _ => vs
  | .cp k => vs.set k (vs.getD k 0 &&& s.getD p.1 0)
def gdSt (vs : List Nat) (p : Nat × Nat) : List Nat := vs.set p.1 (vs.getD p.1 0 &&& p.2)
def masksN (full : List Nat) (d : Deed) (s : List Nat) : List Nat := d.guard.foldl gdSt (d.chg.foldl (cpSt s) (d.chg.foldl (fullSt full) s))
/-- the sketch before a deed -/
def beforeN (full : List Nat) (d : Deed) (s : List Nat) : Option (List Nat) := if (d.chg.all (setsOk s) && (masksN full d s).all fun m => decide (m ≠ 0)) = true then some (masksN full d s) else none

theorem fullSt_len {full : List Nat} : ∀ (l : List (Nat × Src)) (vs : List Nat), (l.foldl (fullSt full) vs).length = vs.length
  | [], _ => rfl
  | p :: l, vs => by rw [List.foldl_cons, fullSt_len l]; simp [fullSt]
theorem cpSt_len1 (s : List Nat) (vs : List Nat) (p : Nat × Src) : (cpSt s vs p).length = vs.length := by
  unfold cpSt
  cases p.2 <;> simp
theorem cpSt_len {s : List Nat} : ∀ (l : List (Nat × Src)) (vs : List Nat), (l.foldl (cpSt s) vs).length = vs.length
  | [], _ => rfl
  | p :: l, vs => by rw [List.foldl_cons, cpSt_len l, cpSt_len1]
theorem gdSt_len : ∀ (l : List (Nat × Nat)) (vs : List Nat), (l.foldl gdSt vs).length = vs.length
  | [], _ => rfl
  | p :: l, vs => by rw [List.foldl_cons, gdSt_len l]; simp [gdSt]
theorem band_nat (a b : Nat) : Builtin.bitAnd (a : Int) (b : Int) = ((a &&& b : Nat) : Int) := by
  rw [PyProof.Rows.bitAnd_pp (by omega) (by omega)]
  simp
theorem op_bandN {a b : Nat} : opD .band [.int (a : Int), .int (b : Int)] = some (natD (a &&& b)) := by
  rw [op_band, band_nat]
local macro_rules | `(tactic| walk_at "ix1") => `(tactic| first
  | (with_reducible exact ix_deed0) | walk_at "ix2")
theorem e_sketch_before (cells : List (Str × Nat)) (deeds : List Deed) (first s : List Nat) (i : Nat) (hsz : ∀ p ∈ cells, 1 ≤ p.2 ∧ p.2 ≤ 16) (hl : cells.length ≤ 24) (hi : i < deeds.length) (hs : s.length = cells.length) (hd : DeedFit (cells.map (·.2)) (deeds.getD i default)) :
    F_sketch_before [encM cells deeds first, tupN s, .int (i : Int)] = .ok (match beforeN (fullN (cells.map (·.2))) (deeds.getD i default) s with | some m => tupN m | none => .non) [] := by
  generalize hdd : deeds.getD i default = dd at hd
  have hds : still (.tup (deeds.map encDeed)) = true := by rw [still_tup]; exact stills_map still_encDeed _
  have hm : still (encM cells deeds first) = true := still_encM
  have hix : ixOf (.tup (deeds.map encDeed)) (.int (i : Int)) = some (encDeed dd) := by
    have := ix_tup (enc := encDeed) (xs := deeds) (k := (i : Int)) (by omega) (by omega)
    rw [Int.toNat_natCast, show deeds.getD i default = dd from hdd] at this
    exact this
  have hfull := e_Machine_full cells deeds first hsz hl
  generalize hff : fullN (cells.map (·.2)) = full at hfull
  have hfl : full.length = cells.length := by rw [← hff]; simp [fullN]
  unfold F_sketch_before b_sketch_before
  walk_at "in"
  walk_at "st"
  walk_at "st"
  walk_at "st"
  have hgt : still (D.tup (dd.guard.map encG)) = true := by rw [still_tup]; exact stills_map still_encG _
  have hct : still (D.tup (dd.chg.map encC)) = true := by rw [still_tup]; exact stills_map still_encC _
  have hszl : (cells.map (·.2)).length = cells.length := List.length_map ..
  with_reducible refine' wp_for (enc := encC) (xs := dd.chg) (fun pre ρ => ∃ x3 x8, ρ = [some (encM cells deeds first), some (tupN s), some (.int (i : Int)), x3, some (.tup (dd.guard.map encG)), some (.tup (dd.chg.map encC)), some (.mls ((pre.foldl (fullSt full) s).map natD)), some (tupN full), x8, none, none, none]) ?a1 ?a2 ?a3 ?a4 ?a5 ?a6 ?a7
  case a1 => walk_at "el"
  case a2 => rfl
  case a3 => exact stills_map still_encC _
  case a4 => walk_at "place"
  case a5 => exact ⟨_, _, rfl⟩
  case a6 =>
    rintro pre ⟨k, src⟩ post ρ hx ⟨x3, x8, rfl⟩
    have h1 : k < (cells.map (·.2)).length := hd.ca.2 (k, src) (by rw [hx]; simp)
    rw [hszl] at h1
    have hlen : (pre.foldl (fullSt full) s).length = cells.length := by rw [fullSt_len, hs]
    have hkf : k < full.length := by omega
    refine ⟨_, rfl, ?_⟩
    walk_at "env"
    with_reducible refine' wp_setix (d := natD (full.getD k 0)) (j := k) ?k0 ?k1 ?k2 ?k3 ?k4 ?k5 ?_
    case k0 =>
      have := ix_tup (enc := natD) (xs := full) (k := (k : Int)) (by omega) (by omega)
      rw [Int.toNat_natCast] at this
      refine' ev_ix (ev_var rfl) (ev_var rfl) ?p1 this
      walk_at "place"
    case k1 => rfl
    case k2 => rfl
    case k3 => exact ev_var rfl
    case k4 => rfl
    case k5 => exact ixD_mls (by omega)
    walk_at "env"
    walk_at "st"
    refine ⟨some (encS src), some (natD k), ?_⟩
    rw [List.foldl_append, map_set_nat]; rfl
  case a7 =>
    rintro ρ ⟨x3, x8, rfl⟩
    have hlf : (dd.chg.foldl (fullSt full) s).length = cells.length := by rw [fullSt_len, hs]
    with_reducible refine' wp_for (enc := encC) (xs := dd.chg) (fun pre ρ => pre.all (setsOk s) = true ∧ ∃ x8 x9 x10, ρ = [some (encM cells deeds first), some (tupN s), some (.int (i : Int)), x3, some (.tup (dd.guard.map encG)), some (.tup (dd.chg.map encC)), some (.mls ((pre.foldl (cpSt s) (dd.chg.foldl (fullSt full) s)).map natD)), some (tupN full), x8, x9, x10, none]) ?b1 ?b2 ?b3 ?b4 ?b5 ?b6 ?b7
    case b1 => walk_at "el"
    case b2 => rfl
    case b3 => exact stills_map still_encC _
    case b4 => walk_at "place"
    case b5 => exact ⟨rfl, _, _, _, rfl⟩
    case b6 =>
      rintro pre ⟨k, src⟩ post ρ hx ⟨hp, x8, x9, x10, rfl⟩
      have hmem : (k, src) ∈ dd.chg := by rw [hx]; simp
      have h1 : k < (cells.map (·.2)).length := hd.ca.2 (k, src) hmem
      rw [hszl] at h1
      have hlen : (pre.foldl (cpSt s) (dd.chg.foldl (fullSt full) s)).length = cells.length := by rw [cpSt_len, hlf]
      have hsx : ixOf (tupN s) (.int (k : Int)) = some (natD (s.getD k 0)) := by
        have := ix_tup (enc := natD) (xs := s) (k := (k : Int)) (by omega) (by omega)
        rw [Int.toNat_natCast] at this
        exact this
      cases src with
      | set v =>
        refine ⟨_, rfl, ?_⟩
        walk_at "env"
        walk_at "st"
        walk_at "st"
        · rename_i q
          walk_at "st"
          rw [bit_eq, ← List.getD_eq_getElem?_getD] at q
          have hb : (s.getD k 0).testBit v = false := by
            cases e : (s.getD k 0).testBit v with
            | false => rfl
            | true => rw [e] at q; cases q
          unfold beforeN
          rw [if_neg]
          intro h
          have := List.all_eq_true.mp (Bool.and_eq_true_iff.mp h).1 (k, .set v) hmem
          have : (s.getD k 0).testBit v = true := this
          rw [hb] at this
          cases this
        · rename_i q
          rw [bit_eq, ← List.getD_eq_getElem?_getD] at q
          have hb : (s.getD k 0).testBit v = true := by
            cases e : (s.getD k 0).testBit v with
            | true => rfl
            | false => rw [e] at q; exact (q rfl).elim
          walk_at "st"
          refine ⟨?_, some (natD k), some (.str "set"), some (natD v), ?_⟩
          · rw [List.all_append, hp]
            show (true && ((s.getD k 0).testBit v && true)) = true
            rw [hb]; rfl
          · rw [List.foldl_append]; rfl
      | cp j =>
        have hj : j < (cells.map (·.2)).length := (hd.cm (k, .cp j) hmem).1
        rw [hszl] at hj
        refine ⟨_, rfl, ?_⟩
        walk_at "env"
        walk_at "st"
        · rename_i q
          exact absurd q (by decide)
        with_reducible refine' wp_augix (z := natD ((pre.foldl (cpSt s) (dd.chg.foldl (fullSt full) s)).getD j 0 &&& s.getD k 0)) (j := j) ?q0 ?q1 ?q2 ?q3 ?q4 ?q5 ?q6 ?_
        case q0 => rfl
        case q1 => rfl
        case q2 => exact ev_var rfl
        case q3 => exact at_mls (by omega)
        case q4 =>
          exact ev_ix (d1 := tupN s) (ev_var rfl) (ev_var rfl) rfl hsx
        case q5 => exact op_bandN
        case q6 => exact ixD_mls (by omega)
        walk_at "env"
        walk_at "st"
        refine ⟨by rw [List.all_append, hp]; rfl, some (natD k), some (.str "copy"), some (natD j), ?_⟩
        rw [List.foldl_append, map_set_nat]; rfl
    case b7 =>
      rintro ρ ⟨hp, x8, x9, x10, rfl⟩
      have hl2 : (dd.chg.foldl (cpSt s) (dd.chg.foldl (fullSt full) s)).length = cells.length := by rw [cpSt_len, hlf]
      with_reducible refine' wp_for (enc := encG) (xs := dd.guard) (fun pre ρ => ∃ x8 x11, slStill x11 = true ∧ ρ = [some (encM cells deeds first), some (tupN s), some (.int (i : Int)), x3, some (.tup (dd.guard.map encG)), some (.tup (dd.chg.map encC)), some (.mls ((pre.foldl gdSt (dd.chg.foldl (cpSt s) (dd.chg.foldl (fullSt full) s))).map natD)), some (tupN full), x8, x9, x10, x11]) ?c1 ?c2 ?c3 ?c4 ?c5 ?c6 ?c7
      case c1 => walk_at "el"
      case c2 => rfl
      case c3 => exact stills_map still_encG _
      case c4 => walk_at "place"
      case c5 => exact ⟨_, _, rfl, rfl⟩
      case c6 =>
        rintro pre ⟨k, m⟩ post ρ hx ⟨x8, x11, h11, rfl⟩
        have h1 : k < (cells.map (·.2)).length := hd.ga.2 (k, m) (by rw [hx]; simp)
        rw [hszl] at h1
        have hlen : (pre.foldl gdSt (dd.chg.foldl (cpSt s) (dd.chg.foldl (fullSt full) s))).length = cells.length := by rw [gdSt_len, hl2]
        refine ⟨_, rfl, ?_⟩
        walk_at "env"
        with_reducible refine' wp_augix (z := natD ((pre.foldl gdSt (dd.chg.foldl (cpSt s) (dd.chg.foldl (fullSt full) s))).getD k 0 &&& m)) (j := k) ?r0 ?r1 ?r2 ?r3 ?r4 ?r5 ?r6 ?_
        case r0 => rfl
        case r1 => rfl
        case r2 => exact ev_var rfl
        case r3 => exact at_mls (by omega)
        case r4 => exact ev_var rfl
        case r5 => exact op_bandN
        case r6 => exact ixD_mls (by omega)
        walk_at "env"
        walk_at "st"
        refine ⟨some (natD k), some (natD m), rfl, ?_⟩
        rw [List.foldl_append, map_set_nat]; rfl
      case c7 =>
        rintro ρ ⟨x8, x11, h11, rfl⟩
        have hall : dd.chg.all (setsOk s) = true := hp
        have hM : dd.guard.foldl gdSt (dd.chg.foldl (cpSt s) (dd.chg.foldl (fullSt full) s)) = masksN full dd s := rfl
        rw [hM]
        have hMl : (masksN full dd s).length = cells.length := by rw [← hM, gdSt_len, hl2]
        have hMs : stills ((masksN full dd s).map natD) = true := stills_map (fun _ => rfl) _
        with_reducible refine' wp_ret (d := if ((masksN full dd s).all fun m : Nat => !decide ((m : Int) = 0)) = true then tupN (masksN full dd s) else .non) ?s1 ?s2 ?_
        case s1 =>
          refine' ev_ite (d := .bl ((masksN full dd s).all fun m : Nat => !decide ((m : Int) = 0))) (ev_op (el_cons ?t1 rfl ?t2 el_nil) op_all) rfl (fun _ => ⟨?t3, ?t4⟩) (fun _ => ⟨ev_non, rfl⟩)
          case t1 =>
            with_reducible refine' ev_comp0 (enc := natD) (xs := masksN full dd s) (g := fun m : Nat => D.bl (!decide ((m : Int) = 0))) ?g1 ?g2 ?g3 ?g4 ?gb1 ?gb2 ?gb3 ?gb4 ?g5
            case g1 => walk_at "el"
            case g2 => rfl
            case g3 => exact hMs
            case g4 => omega
            case gb1 =>
              unfold slStill at h11
              unfold ownOk
              simp only [List.all_cons, List.all_nil, List.getElem?_cons_zero, List.getElem?_cons_succ, Bool.and_true, Bool.true_and]
              cases x11 <;> simp_all
            case gb2 => rfl
            case gb3 => rfl
            case gb4 => rfl
            case g5 =>
              intro x hx
              refine ⟨_, rfl, rfl, ?_, rfl⟩
              walk_at "env"
              walk_at "ev"
          case t2 => walk_at "place"
          case t3 => walk_at "ev"
          case t4 => rfl
        case s2 => rfl
        show _ = _
        have e : ((masksN full dd s).all fun m : Nat => !decide ((m : Int) = 0)) = (masksN full dd s).all fun m => decide (m ≠ 0) := by
          congr 1
          funext m
          simp
        rw [e]
        unfold beforeN
        rw [hall]
        simp only [Bool.true_and]
        split <;> rfl

theorem e_before (cells : List (Str × Nat)) (deeds : List Deed) (first s : List Nat) (i : Nat) (hsz : ∀ p ∈ cells, 1 ≤ p.2 ∧ p.2 ≤ 16) (hl : cells.length ≤ 24) (hi : i < deeds.length) (hs : sketchB (cells.map (·.2)) s = true) (hd : DeedFit (cells.map (·.2)) (deeds.getD i default)) :
    F_before [encM cells deeds first, tupN s, .int (i : Int)] = .ok (match beforeN (fullN (cells.map (·.2))) (deeds.getD i default) s with | some m => tupN m | none => .non) [] := by
  have h1 := e_check_sketch cells deeds first s (fun p hp => by have := hsz p hp; omega)
  rw [if_pos hs] at h1
  have h2 := e_check_deed cells deeds first (i : Int)
  rw [if_neg (by omega)] at h2
  have hlen : s.length = cells.length := by
    have := of_decide_eq_true (Bool.and_eq_true_iff.mp hs).1
    rw [List.length_map] at this
    exact this
  have h3 := e_sketch_before cells deeds first s i hsz hl hi hlen hd
  have hm : still (encM cells deeds first) = true := still_encM
  generalize hr : (match beforeN (fullN (cells.map (·.2))) (deeds.getD i default) s with | some m => tupN m | none => D.non) = r at h3
  have hrs : still r = true := by
    rw [← hr]
    split
    · exact still_tupN
    · rfl
  unfold F_before b_before
  walk_at "in"
  walk_at "st"
  walk_at "st"
  walk_at "st"
  all_goals exact hr

theorem e_beforeS (cells : List (Str × Nat)) (deeds : List Deed) (first s : List Nat) (i : Int) (hsz : ∀ p ∈ cells, 1 ≤ p.2 ∧ p.2 ≤ 16) (hs : sketchB (cells.map (·.2)) s = false) : F_before [encM cells deeds first, tupN s, .int i] = .exn ⟨3, none⟩ := by
  have h1 := e_check_sketch cells deeds first s (fun p hp => by have := hsz p hp; omega)
  rw [if_neg (by rw [hs]; decide)] at h1
  have hm : still (encM cells deeds first) = true := still_encM
  unfold F_before b_before
  walk_at "inx"
  with_reducible refine' wp_exprX (x := ⟨3, none⟩) ?k1 ?_
  case k1 =>
    with_reducible refine' ev_callX (f := _) ?c0 ?c1 ?c2 ?c3 ?c4 ?c5 ?c6
    case c0 => rfl
    case c1 => rfl
    case c2 => rfl
    case c3 => walk_at "ea"
    case c4 => rfl
    case c5 => exact h1
    case c6 => intro c m q; cases q
  rfl

theorem e_beforeD (cells : List (Str × Nat)) (deeds : List Deed) (first s : List Nat) (i : Int) (hsz : ∀ p ∈ cells, 1 ≤ p.2 ∧ p.2 ≤ 16) (hs : sketchB (cells.map (·.2)) s = true) (hi : i < 0 ∨ deeds.length ≤ i) : F_before [encM cells deeds first, tupN s, .int i] = .exn ⟨4, none⟩ := by
  have h1 := e_check_sketch cells deeds first s (fun p hp => by have := hsz p hp; omega)
  rw [if_pos hs] at h1
  have h2 := e_check_deed cells deeds first i
  rw [if_pos hi] at h2
  have hm : still (encM cells deeds first) = true := still_encM
  unfold F_before b_before
  walk_at "inx"
  walk_at "st"
  with_reducible refine' wp_exprX (x := ⟨4, none⟩) ?k1 ?_
  case k1 =>
    with_reducible refine' ev_callX (f := _) ?c0 ?c1 ?c2 ?c3 ?c4 ?c5 ?c6
    case c0 => rfl
    case c1 => rfl
    case c2 => rfl
    case c3 => walk_at "ea"
    case c4 => rfl
    case c5 => exact h2
    case c6 => intro c m q; cases q
  rfl

theorem refused_of (m s i : D) (c : Nat) (r : Str) (hF : F_before [m, s, i] = .exn ⟨c, none⟩) (hm : frz m = m) (hs : frz s = s) (hi : frz i = i) (sm : still m = true) (ss : still s = true) (si : still i = true) (hc : (c = 3 ∧ r = "sketch") ∨ (c = 4 ∧ r = "deed")) : F_law_refused_2 [m, s, i] = .ok (.str r) [] := by
  unfold F_law_refused_2 b_law_refused_2
  walk_at "in"
  refine' wp_try ?_
  refine' wp_exprX (x := ⟨c, none⟩) (ρ1 := [some m, some s, some i, none]) ?k1 ?_
  case k1 =>
    with_reducible refine' ev_callX (f := _) ?c0 ?c1 ?c2 ?c3 ?c4 ?c5 ?c6
    case c0 => rfl
    case c1 => rfl
    case c2 => rfl
    case c3 => walk_at "ea"
    case c4 => rfl
    case c5 => exact hF
    case c6 => intro c m q; cases q
  rcases hc with ⟨rfl, rfl⟩ | ⟨rfl, rfl⟩ <;> rfl

/-! ### sketches: meet, split, without -/
/-- both masks, place by place -/
def bothN (a b : List Nat) : List Nat := (a.zip b).map fun p => p.1 &&& p.2
def meetN (a b : List Nat) : Option (List Nat) := if 0 ∈ bothN a b then none else some (bothN a b)
def optT : Option (List Nat) → D
  | none => .non
  | some s => tupN s
theorem e_meet (a b : List Nat) (hl : a.length ≤ 1000000) : F_meet [tupN a, tupN b] = .ok (optT (meetN a b)) [] := by
  unfold F_meet b_meet
  walk_at "in"
  walk_at "st"
  with_reducible refine' wp_for (α := _) (enc := fun p : Nat × Nat => D.tup [natD p.1, natD p.2]) (xs := a.zip b) (fun pre ρ => (∀ p ∈ pre, p.1 &&& p.2 ≠ 0) ∧ ∃ x3 x4, ρ = [some (tupN a), some (tupN b), some (.mls ((pre.map fun p : Nat × Nat => p.1 &&& p.2).map natD)), x3, x4]) ?a1 ?a2 ?a3 ?a4 ?a5 ?a6 ?a7
  case a1 => walk_at "el"
  case a2 => exact it_zipT (by walk_at "still") (by walk_at "still")
  case a3 => walk_at "still"
  case a4 => walk_at "place"
  case a5 => exact ⟨fun _ h => (nomatch h), _, _, rfl⟩
  case a6 =>
    rintro pre ⟨x, y⟩ post ρ hx ⟨hp, x3, x4, rfl⟩
    have hle : pre.length ≤ 1000000 := by
      have h1 := congrArg List.length hx
      simp at h1; omega
    have hm : (x, y) ∈ a.zip b := by rw [hx]; simp
    refine ⟨_, rfl, ?_⟩
    walk_at "env"
    walk_at "st"
    · rename_i h
      rw [band_nat] at h
      walk_at "st"
      have : meetN a b = none := by
        unfold meetN bothN
        rw [if_pos]
        exact List.mem_map.mpr ⟨(x, y), hm, by show x &&& y = 0; omega⟩
      rw [this]; rfl
    · rename_i h
      rw [band_nat] at h
      walk_at "st"
      walk_at "st"
      refine ⟨fun p hp' => ?_, ?_⟩
      · rcases List.mem_append.mp hp' with h' | h'
        · exact hp p h'
        · rw [List.mem_singleton.mp h']; show x &&& y ≠ 0; omega
      · walk_at "fin"
        exact acc_snoc (by rw [band_nat])
  case a7 =>
    rintro ρ ⟨hp, x3, x4, rfl⟩
    walk_at "st"
    have : meetN a b = some (bothN a b) := by
      unfold meetN
      rw [if_neg]
      intro h
      obtain ⟨p, h1, h2⟩ := List.mem_map.mp h
      exact hp p h1 h2
    rw [this]; rfl

local macro_rules | `(tactic| walk_at "call2") => `(tactic| first
  | (refine' e_meet _ _ ?k1; (case k1 => walk_at "side")) | walk_at "call3")
def splitAt (a b : List Nat) (k : Nat) : Option (List Nat) := if a.getD k 0 = (bothN a b).getD k 0 then none else some ((bothN a b).take k ++ [a.getD k 0 - (bothN a b).getD k 0] ++ a.drop (k + 1))
def splitN (a b : List Nat) : List (List Nat) := if 0 ∈ bothN a b then [a] else (List.range a.length).filterMap (splitAt a b)
theorem both_len {a b : List Nat} (h : a.length = b.length) : (bothN a b).length = a.length := by unfold bothN; simp; omega
theorem both_at {a b : List Nat} {k : Nat} (h : a.length = b.length) (hk : k < a.length) : (bothN a b).getD k 0 = a.getD k 0 &&& b.getD k 0 := by
  unfold bothN
  rw [List.getD_eq_getElem?_getD, List.getD_eq_getElem?_getD, List.getD_eq_getElem?_getD, List.getElem?_map, List.getElem?_eq_getElem (show k < (a.zip b).length by simp; omega), List.getElem?_eq_getElem hk, List.getElem?_eq_getElem (show k < b.length by omega)]
  simp
theorem zipIdx_at {α : Type} {a : List α} {pre post : List (α × Nat)} {x : α × Nat} (h : a.zipIdx = pre ++ x :: post) : x.2 = pre.length ∧ a[x.2]? = some x.1 ∧ pre.length < a.length := by
  have h1 : pre.length < a.length := by
    have := congrArg List.length h
    simp at this; omega
  have h3 : a.zipIdx[pre.length]? = some x := by rw [h]; simp
  rw [List.getElem?_zipIdx] at h3
  simp [List.getElem?_eq_getElem h1] at h3
  subst h3
  exact ⟨rfl, by simp [h1], h1⟩
theorem getD_of {a : List Nat} {k v : Nat} (h : a[k]? = some v) : a.getD k 0 = v := by rw [List.getD_eq_getElem?_getD, h]; rfl
theorem xor_and (m b : Nat) : Builtin.bitXor (m : Int) ((m &&& b : Nat) : Int) = ((m - (m &&& b) : Nat) : Int) := by
  rw [PyProof.Rows.bitXor_and, band_nat]
  have e : m &&& (m &&& b) = m &&& b := by rw [← Nat.and_assoc, Nat.and_self]
  have l : m &&& b ≤ m := Nat.and_le_left
  rw [e]; omega
theorem part_eq {both a : List Nat} {k r : Nat} : D.tup (((both.map natD).take k ++ [natD r]) ++ (a.map natD).drop (k + 1)) = tupN (both.take k ++ [r] ++ a.drop (k + 1)) := by
  unfold tupN; rw [List.map_append, List.map_append, List.map_take, List.map_drop]; rfl
theorem e_split (a b : List Nat) (hab : a.length = b.length) (hl : a.length ≤ 1000) : F_split [tupN a, tupN b] = .ok (.lst ((splitN a b).map tupN)) [] := by
  have hbl := both_len hab
  unfold F_split b_split
  walk_at "in"
  walk_at "st"
  by_cases h0 : 0 ∈ bothN a b
  · have hm : meetN a b = none := by unfold meetN; rw [if_pos h0]
    rw [hm]
    walk_at "st"
    · walk_at "st"
      unfold splitN; rw [if_pos h0]; rfl
    · rename_i h
      cases h
  · have hm : meetN a b = some (bothN a b) := by unfold meetN; rw [if_neg h0]
    rw [hm]
    show Wp _ _ [some (tupN a), some (tupN b), some (tupN (bothN a b)), none, none, none, none] _
    walk_at "st"
    · rename_i h
      cases h
    walk_at "st"
    with_reducible refine' wp_for (α := _) (enc := fun p : Nat × Nat => D.tup [.int (p.2 : Nat), natD p.1]) (xs := a.zipIdx) (fun pre ρ => ∃ x4 x5 x6, ρ = [some (tupN a), some (tupN b), some (tupN (bothN a b)), some (.mls (((List.range pre.length).filterMap (splitAt a b)).map tupN)), x4, x5, x6]) ?a1 ?a2 ?a3 ?a4 ?a5 ?a6 ?a7
    case a1 => walk_at "el"
    case a2 => exact it_enumT (by walk_at "still")
    case a3 => walk_at "still"
    case a4 => walk_at "place"
    case a5 => exact ⟨_, _, _, rfl⟩
    case a6 =>
      rintro pre ⟨m, k⟩ post ρ hx ⟨x4, x5, x6, rfl⟩
      obtain ⟨e1, e2, e3⟩ := zipIdx_at hx
      have e1 : k = pre.length := e1
      subst e1
      have e2 : a.getD pre.length 0 = m := getD_of e2
      have e4 := both_at hab e3
      have e5 : ((pre.length : Int)).toNat = pre.length := Int.toNat_natCast _
      have e6 : ((pre.length : Int) + 1).toNat = pre.length + 1 := by omega
      have hlf : ((List.range pre.length).filterMap (splitAt a b)).length ≤ 1000 := Nat.le_trans (List.length_filterMap_le ..) (by simp; omega)
      have e7 : ((bothN a b).getD ((pre.length : Int)).toNat default : Nat) = m &&& b.getD pre.length 0 := by rw [e5, ← e2]; exact e4
      generalize b.getD pre.length 0 = bv at e4 e7
      have lv : m &&& bv ≤ m := Nat.and_le_left
      rw [e2] at e4
      refine ⟨_, rfl, ?_⟩
      walk_at "env"
      walk_at "st"
      rw [e7, xor_and]
      generalize m &&& bv = mb at e4 e7 lv ⊢
      walk_at "st"
      · rename_i h
        walk_at "st"
        walk_at "st"
        walk_at "fin"
        rw [e5, e6, List.length_append, List.length_singleton, List.range_succ]
        refine acc_fm (f := splitAt a b) (x := pre.length) (y := (bothN a b).take pre.length ++ [m - mb] ++ a.drop (pre.length + 1)) ?_ part_eq
        unfold splitAt
        rw [e4, e2, if_neg (by omega)]
      · rename_i h
        walk_at "st"
        walk_at "fin"
        rw [List.length_append, List.length_singleton, List.range_succ]
        refine acc_fm0 ?_
        unfold splitAt
        rw [e4, e2, if_pos (by omega)]
    case a7 =>
      rintro ρ ⟨x4, x5, x6, rfl⟩
      walk_at "st"
      unfold splitN
      rw [if_neg h0, List.length_zipIdx]
theorem e_law_split (a b : List Nat) (hab : a.length = b.length) (hl : a.length ≤ 1000) : F_law_split [tupN a, tupN b] = .ok (.lst ((splitN a b).map tupN)) [] := by
  have hbl := both_len hab
  unfold F_law_split b_law_split
  walk_at "in"
  with_reducible refine' wp_asg (d := .lst ((bothN a b).map natD)) ?k1 ?k2 ?k3 ?_
  case k1 =>
    refine' ev_fz ?f1 ?f2 ?f3
    case f1 =>
      with_reducible refine' ev_comp0 (enc := fun p : Nat × Nat => D.tup [natD p.1, natD p.2]) (xs := a.zip b) (g := fun p : Nat × Nat => D.int (Builtin.bitAnd (p.1 : Int) (p.2 : Int))) ?a1 ?a2 ?a3 ?a4 ?b1 ?b2 ?b3 ?b4 ?a5
      case a1 => walk_at "el"
      case a2 => exact it_zipT (by walk_at "still") (by walk_at "still")
      case a3 => walk_at "still"
      case a4 => simp; omega
      case b1 => rfl
      case b2 => exact Bool.true_or _
      case b3 => rfl
      case b4 => rfl
      case a5 =>
        intro x hx
        refine ⟨_, rfl, rfl, ?_, rfl⟩
        walk_at "env"
        walk_at "ev"
    case f2 => rfl
    case f3 =>
      refine (frz_mls (stills_map (fun _ => rfl) _)).trans (congrArg D.lst ?_)
      unfold bothN
      rw [List.map_map]
      exact List.map_congr_left fun p _ => by rw [band_nat]; rfl
  case k2 => rfl
  case k3 => rfl
  walk_at "env"
  walk_at "st"
  · rename_i h
    walk_at "st"
    unfold splitN; rw [if_pos h]; rfl
  · rename_i h
    walk_at "st"
    with_reducible refine' wp_for (α := _) (enc := fun k : Nat => D.int (k : Int)) (xs := List.range a.length) (fun pre ρ => ∃ x4, ρ = [some (tupN a), some (tupN b), some (.lst ((bothN a b).map natD)), some (.mls ((pre.filterMap (splitAt a b)).map tupN)), x4, none, none]) ?a1 ?a2 ?a3 ?a4 ?a5 ?a6 ?a7
    case a1 => walk_at "el"
    case a2 => exact it_rngN (List.length_map ..) (by omega)
    case a3 => walk_at "still"
    case a4 => walk_at "place"
    case a5 => exact ⟨_, rfl⟩
    case a6 =>
      rintro pre k post ρ hx ⟨x4, rfl⟩
      obtain ⟨rfl, hlt⟩ := pre_range hx
      have e5 : ((k : Int)).toNat = k := Int.toNat_natCast _
      have e6 : ((k : Int) + 1).toNat = k + 1 := by omega
      have hlf : ((List.range k).filterMap (splitAt a b)).length ≤ 1000 := Nat.le_trans (List.length_filterMap_le ..) (by simp; omega)
      have e4 := both_at hab hlt
      have lv : a.getD k 0 &&& b.getD k 0 ≤ a.getD k 0 := Nat.and_le_left
      rw [← e4] at lv
      have ea : a.getD ((k : Int)).toNat default = a.getD k 0 := by rw [e5]; rfl
      have eb : (bothN a b).getD ((k : Int)).toNat default = (bothN a b).getD k 0 := by rw [e5]; rfl
      refine ⟨_, rfl, ?_⟩
      walk_at "env"
      have hs : splitAt a b k = if a.getD k 0 = (bothN a b).getD k 0 then none else some ((bothN a b).take k ++ [a.getD k 0 - (bothN a b).getD k 0] ++ a.drop (k + 1)) := rfl
      generalize a.getD k 0 = av at lv ea hs
      generalize (bothN a b).getD k 0 = bv at lv eb hs
      have ia : ixOf (tupN a) (.int (k : Int)) = some (natD av) := (ix_tup (by omega) (by omega)).trans (by rw [ea])
      have ib : ixOf (.lst ((bothN a b).map natD)) (.int (k : Int)) = some (natD bv) := (ix_lst (by omega) (by omega)).trans (by rw [eb])
      walk_at "st"
      · rename_i h2
        walk_at "st"
        walk_at "st"
        walk_at "fin"
        refine acc_fm (f := splitAt a b) (x := k) (y := (bothN a b).take k ++ [av - bv] ++ a.drop (k + 1)) ?_ ?_
        · rw [hs, if_neg (by omega)]
        · rw [e5, e6, ← part_eq, show ((av : Int) - (bv : Int)) = ((av - bv : Nat) : Int) by omega]
      · rename_i h2
        walk_at "st"
        walk_at "fin"
        refine acc_fm0 ?_
        rw [hs, if_pos (by omega)]
    case a7 =>
      rintro ρ ⟨x4, rfl⟩
      walk_at "st"
      unfold splitN
      rw [if_neg h]
local macro_rules | `(tactic| walk_at "call3") => `(tactic| first
  | (refine' e_split _ _ ?k1 ?k2; (case k1 => walk_at "side"); (case k2 => walk_at "side"))
  | (refine' e_law_split _ _ ?k1 ?k2; (case k1 => walk_at "side"); (case k2 => walk_at "side"))
  | walk_at "call4")
def withoutN (a : List Nat) (piece : List (List Nat)) : List (List Nat) := piece.foldl (fun parts s => parts.flatMap fun p => splitN p s) [a]
theorem withoutN_snoc (a : List Nat) (piece : List (List Nat)) (s : List Nat) : withoutN a (piece ++ [s]) = (withoutN a piece).flatMap fun p => splitN p s := by unfold withoutN; rw [List.foldl_append]; rfl
theorem splitN_len {a b : List Nat} (hab : a.length = b.length) : ∀ p ∈ splitN a b, p.length = a.length := by
  intro p hp
  unfold splitN at hp
  split at hp
  · simp at hp; rw [hp]
  · obtain ⟨k, hk, h⟩ := List.mem_filterMap.mp hp
    have hk := List.mem_range.mp hk
    unfold splitAt at h
    split at h
    · cases h
    · cases h
      simp [both_len hab]; omega
theorem foldl_split_len : ∀ (piece : List (List Nat)) (n : Nat) (acc : List (List Nat)), (∀ s ∈ piece, s.length = n) → (∀ p ∈ acc, p.length = n) → ∀ p ∈ piece.foldl (fun parts s => parts.flatMap fun p => splitN p s) acc, p.length = n
  | [], n, acc, _, h, p, hp => h p hp
  | s :: piece, n, acc, hs, h, p, hp => by
    refine foldl_split_len piece n _ (fun s hs' => hs s (List.mem_cons_of_mem _ hs')) (fun q hq => ?_) p hp
    obtain ⟨r, h1, h2⟩ := List.mem_flatMap.mp hq
    rw [splitN_len (by rw [h r h1, hs s List.mem_cons_self]) q h2, h r h1]
theorem withoutN_len {a : List Nat} {piece : List (List Nat)} (h : ∀ s ∈ piece, s.length = a.length) : ∀ p ∈ withoutN a piece, p.length = a.length :=
  foldl_split_len piece a.length [a] h fun p hp => by simp at hp; rw [hp]
theorem e_without (a : List Nat) (piece : List (List Nat)) (hs : ∀ s ∈ piece, s.length = a.length) (hl : a.length ≤ 1000) (hb : ∀ pre post, piece = pre ++ post → (withoutN a pre).length ≤ 1000000) : F_without [tupN a, .lst (piece.map tupN)] = .ok (.lst ((withoutN a piece).map tupN)) [] := by
  unfold F_without b_without
  walk_at "in"
  walk_at "st"
  with_reducible refine' wp_for (α := _) (enc := tupN) (xs := piece) (fun pre ρ => ∃ x3, ρ = [some (tupN a), some (.lst (piece.map tupN)), some (.lst ((withoutN a pre).map tupN)), x3, none, none]) ?a1 ?a2 ?a3 ?a4 ?a5 ?a6 ?a7
  case a1 => walk_at "el"
  case a2 => rfl
  case a3 => walk_at "still"
  case a4 => walk_at "place"
  case a5 => exact ⟨_, rfl⟩
  case a6 =>
    rintro pre s post ρ hx ⟨x3, rfl⟩
    have hlen := hb (pre ++ [s]) post (by rw [hx]; simp)
    rw [withoutN_snoc] at hlen
    have hsl : s.length = a.length := hs s (by rw [hx]; simp)
    have hpl : ∀ p ∈ withoutN a pre, p.length = a.length := withoutN_len fun t ht => hs t (by rw [hx]; simp [ht])
    refine ⟨_, rfl, ?_⟩
    walk_at "env"
    with_reducible refine' wp_asg (d := .lst ((withoutN a (pre ++ [s])).map tupN)) ?k1 ?k2 ?k3 ?_
    case k1 =>
      refine' ev_fz ?f1 ?f2 ?f3
      case f1 =>
        with_reducible refine' ev_comp2 (enc := tupN) (enc' := tupN) (xs := withoutN a pre) (ys := fun p => splitN p s) (g := fun _ q => tupN q) ?a1 ?a2 ?a3 ?a4 ?b1 ?b2 ?b3 ?b4 ?a5
        case a1 => walk_at "el"
        case a2 => rfl
        case a3 => walk_at "still"
        case a4 => omega
        case b1 => rfl
        case b2 => exact Bool.true_or _
        case b3 => rfl
        case b4 => rfl
        case a5 =>
          intro p hp
          have hp1 := hpl p hp
          refine ⟨_, [.lst ((splitN p s).map tupN)], rfl, ?_, rfl, by walk_at "still", by walk_at "still", rfl, ?_⟩
          · walk_at "env"
            walk_at "el"
          · intro y hy ρ hρ
            refine ⟨[some (tupN a), some (.lst (piece.map tupN)), some (.lst ((withoutN a pre).map tupN)), some (tupN s), some (tupN p), some (tupN y)], by rw [hρ]; rfl, rfl, rfl, ?_, by walk_at "place"⟩
            walk_at "env"
            walk_at "ev"
      case f2 => rfl
      case f3 =>
        refine (frz_mls ?_).trans (congrArg D.lst ?_)
        · rw [stills_all, List.all_eq_true]
          intro d hd
          obtain ⟨p, _, h2⟩ := List.mem_flatMap.mp hd
          obtain ⟨q, _, rfl⟩ := List.mem_map.mp h2
          exact still_tupN
        · rw [withoutN_snoc, List.map_flatMap]
    case k2 => rfl
    case k3 => rfl
    walk_at "env"
    walk_at "st"
    walk_at "fin"
  case a7 =>
    rintro ρ ⟨x3, rfl⟩
    walk_at "st"

/-! ### disks, parts: the mathematics -/
def memD : List Nat → List Nat → Bool
  | [], [] => true
  | m :: s, v :: d => (decide (v < 16) && m.testBit v) && memD s d
  | _, _ => false
def disksR : List Nat → List (List Nat)
  | [] => [[]]
  | m :: s => (valsN m).flatMap fun v => (disksR s).map (v :: ·)
theorem disks_foldl : ∀ (s : List Nat) (acc : List (List Nat)), s.foldl (fun ds m => ds.flatMap (extN m)) acc = acc.flatMap fun p => (disksR s).map (p ++ ·)
  | [], acc => by simp [disksR]
  | m :: s, acc => by
    rw [List.foldl_cons, disks_foldl s, List.flatMap_assoc]
    congr 1
    funext p
    unfold extN
    rw [List.flatMap_map, disksR, List.map_flatMap]
    congr 1
    funext v
    rw [List.map_map]
    congr 1
    funext d
    simp
theorem disks_eq (s : List Nat) : disksN s = disksR s := by unfold disksN; rw [disks_foldl]; simp
def cnt (p d : List Nat) : Nat := if memD p d = true then 1 else 0
theorem vals_count (m v : Nat) : (valsN m).count v = if (decide (v < 16) && m.testBit v) = true then 1 else 0 := by
  unfold valsN
  by_cases h : m.testBit v = true
  · rw [List.count_filter (by simpa using h), List.count_range]
    simp [h]
  · rw [List.count_eq_zero.mpr (by simp [h])]
    simp [h]
theorem count_cons_map (v w : Nat) (d : List Nat) (L : List (List Nat)) : (L.map (w :: ·)).count (v :: d) = if w = v then L.count d else 0 := by
  induction L with
  | nil => simp
  | cons e L ih =>
    rw [List.map_cons, List.count_cons, ih, List.count_cons]
    by_cases h : w = v
    · subst h; simp
    · simp [h]
theorem sum_ite (v c : Nat) : ∀ l : List Nat, (l.map fun w => if w = v then c else 0).sum = l.count v * c
  | [] => by simp
  | w :: l => by
    rw [List.map_cons, List.sum_cons, sum_ite v c l, List.count_cons]
    by_cases h : w = v
    · subst h; simp [Nat.add_mul]; omega
    · simp [h]
theorem disks_count : ∀ (s d : List Nat), (disksR s).count d = cnt s d
  | [], [] => by simp [disksR, cnt, memD]
  | [], v :: d => by simp [disksR, cnt, memD]
  | m :: s, [] => by
    rw [List.count_eq_zero.mpr]
    · simp [cnt, memD]
    · simp [disksR]
  | m :: s, v :: d => by
    rw [disksR, List.count_flatMap]
    have e : (List.count (v :: d) ∘ fun w => (disksR s).map (w :: ·)) = fun w => if w = v then (disksR s).count d else 0 := funext fun w => count_cons_map v w d _
    rw [e, sum_ite, vals_count, disks_count s d]
    unfold cnt
    rw [memD]
    by_cases h1 : (decide (v < 16) && m.testBit v) = true <;> simp [h1]
def sumC (ps : List (List Nat)) (d : List Nat) : Nat := (ps.map fun p => cnt p d).sum
theorem sumC_append (a b : List (List Nat)) (d : List Nat) : sumC (a ++ b) d = sumC a d + sumC b d := by unfold sumC; simp
theorem sumC_flat {f : List Nat → List (List Nat)} (d : List Nat) : ∀ ps : List (List Nat), sumC (ps.flatMap f) d = (ps.map fun p => sumC (f p) d).sum
  | [] => rfl
  | p :: ps => by rw [List.flatMap_cons, sumC_append, sumC_flat d ps]; simp
/-- the parts, without a look at the meet -/
def partsR : List Nat → List Nat → List (List Nat)
  | x :: a, y :: b => (if x = x &&& y then [] else [(x - (x &&& y)) :: a]) ++ (partsR a b).map ((x &&& y) :: ·)
  | _, _ => []
theorem splitAt_succ (x y : Nat) (a b : List Nat) (k : Nat) : splitAt (x :: a) (y :: b) (k + 1) = (splitAt a b k).map ((x &&& y) :: ·) := by
  have e : bothN (x :: a) (y :: b) = (x &&& y) :: bothN a b := by simp [bothN]
  unfold splitAt
  rw [e]
  simp only [List.getD_cons_succ, List.take_succ_cons, List.drop_succ_cons]
  split <;> simp
theorem parts_eq : ∀ (a b : List Nat), a.length = b.length → (List.range a.length).filterMap (splitAt a b) = partsR a b
  | [], _, _ => by simp [partsR]
  | x :: a, [], h => by simp at h
  | x :: a, y :: b, h => by
    rw [List.length_cons, List.range_succ_eq_map, List.filterMap_cons, List.filterMap_map]
    have e : (splitAt (x :: a) (y :: b) ∘ Nat.succ) = fun k => (splitAt a b k).map ((x &&& y) :: ·) := funext fun k => splitAt_succ x y a b k
    rw [e]
    have e2 : List.filterMap (fun k => (splitAt a b k).map ((x &&& y) :: ·)) (List.range a.length) = ((List.range a.length).filterMap (splitAt a b)).map ((x &&& y) :: ·) := by rw [List.map_filterMap]
    rw [e2, parts_eq a b (by simpa using h), partsR]
    have e3 : splitAt (x :: a) (y :: b) 0 = if x = x &&& y then none else some ((x - (x &&& y)) :: a) := by simp [splitAt, bothN]
    rw [e3]
    by_cases q : x = x &&& y
    · rw [if_pos q, if_pos q]; rfl
    · rw [if_neg q, if_neg q]; rfl
theorem and_mod_le (x y : Nat) : (x &&& y) % 2 ≤ x % 2 := by
  have h := Nat.testBit_and x y 0
  rw [Nat.testBit_zero, Nat.testBit_zero, Nat.testBit_zero] at h
  by_cases q : (x &&& y) % 2 = 1
  · rw [decide_eq_true q] at h
    have := of_decide_eq_true (Bool.and_eq_true_iff.mp h.symm).1
    omega
  · omega
theorem sub_testBit : ∀ (v x y : Nat), (x - (x &&& y)).testBit v = (x.testBit v && !y.testBit v)
  | 0, x, y => by
    have h := Nat.testBit_and x y 0
    have l1 : x &&& y ≤ x := Nat.and_le_left
    have l2 := and_mod_le x y
    rw [Nat.testBit_zero, Nat.testBit_zero, Nat.testBit_zero] at *
    generalize x &&& y = a at *
    by_cases q1 : x % 2 = 1 <;> by_cases q2 : y % 2 = 1 <;> simp [q1, q2] at h ⊢ <;> omega
  | v + 1, x, y => by
    have l1 : x &&& y ≤ x := Nat.and_le_left
    have l2 := and_mod_le x y
    rw [Nat.testBit_succ, Nat.testBit_succ, Nat.testBit_succ]
    have e : (x - (x &&& y)) / 2 = x / 2 - (x / 2 &&& y / 2) := by
      have e1 : (x &&& y) / 2 = x / 2 &&& y / 2 := Nat.and_div_two
      rw [← e1]; omega
    rw [e]
    exact sub_testBit v (x / 2) (y / 2)
theorem sum_zero : ∀ l : List Nat, (∀ n ∈ l, n = 0) → l.sum = 0
  | [], _ => rfl
  | n :: l, h => by rw [List.sum_cons, h n List.mem_cons_self, sum_zero l fun m hm => h m (List.mem_cons_of_mem _ hm)]
theorem sumC_cons (w v : Nat) (d : List Nat) (ps : List (List Nat)) : sumC (ps.map (w :: ·)) (v :: d) = if (decide (v < 16) && w.testBit v) = true then sumC ps d else 0 := by
  induction ps with
  | nil => simp [sumC]
  | cons p ps ih =>
    have e : sumC ((p :: ps).map (w :: ·)) (v :: d) = cnt (w :: p) (v :: d) + sumC (ps.map (w :: ·)) (v :: d) := by simp [sumC]
    have e2 : sumC (p :: ps) d = cnt p d + sumC ps d := by simp [sumC]
    rw [e, ih, e2]
    unfold cnt
    rw [memD]
    by_cases h : (decide (v < 16) && w.testBit v) = true <;> simp [h]
theorem parts_count : ∀ (a b d : List Nat), a.length = b.length → sumC (partsR a b) d = if (memD a d && !memD b d) = true then 1 else 0
  | [], [], [], _ => by simp [partsR, sumC, memD]
  | [], [], v :: d, _ => by simp [partsR, sumC, memD]
  | [], _ :: _, _, h => by simp at h
  | _ :: _, [], _, h => by simp at h
  | x :: a, y :: b, [], _ => by
    have : ∀ p ∈ partsR (x :: a) (y :: b), cnt p [] = 0 := by
      intro p hp
      rw [partsR] at hp
      rcases List.mem_append.mp hp with h | h
      · split at h
        · cases h
        · rw [List.mem_singleton.mp h]; rfl
      · obtain ⟨q, _, rfl⟩ := List.mem_map.mp h; rfl
    have z : sumC (partsR (x :: a) (y :: b)) [] = 0 := by
      unfold sumC
      refine sum_zero _ ?_
      intro n hn
      obtain ⟨p, hp, rfl⟩ := List.mem_map.mp hn
      exact this p hp
    rw [z]; simp [memD]
  | x :: a, y :: b, v :: d, h => by
    rw [partsR, sumC_append, sumC_cons, parts_count a b d (by simpa using h), Nat.testBit_and]
    have e1 : sumC (if x = x &&& y then [] else [(x - (x &&& y)) :: a]) (v :: d) = if ((decide (v < 16) && (x.testBit v && !y.testBit v)) && memD a d) = true then 1 else 0 := by
      rw [← sub_testBit]
      by_cases q : x = x &&& y
      · rw [if_pos q, ← q]; simp [sumC]
      · rw [if_neg q]; simp [sumC, cnt, memD]
    rw [e1, memD, memD]
    generalize decide (v < 16) = A
    generalize x.testBit v = B
    generalize y.testBit v = C
    generalize memD a d = E
    generalize memD b d = F
    cases A <;> cases B <;> cases C <;> cases E <;> cases F <;> rfl
theorem both_none : ∀ (a b d : List Nat), 0 ∈ bothN a b → memD a d = true → memD b d = true → False
  | [], _, _, h, _, _ => by simp [bothN] at h
  | _ :: _, [], _, h, _, _ => by simp [bothN] at h
  | x :: a, y :: b, [], _, h, _ => by simp [memD] at h
  | x :: a, y :: b, v :: d, h, h1, h2 => by
    rw [memD] at h1 h2
    simp only [Bool.and_eq_true] at h1 h2
    have e : bothN (x :: a) (y :: b) = (x &&& y) :: bothN a b := by simp [bothN]
    rw [e] at h
    rcases List.mem_cons.mp h with q | q
    · have := Nat.testBit_and x y v
      rw [← q, h1.1.2, h2.1.2] at this
      simp at this
    · exact both_none a b d q h1.2 h2.2
theorem split_count (a b d : List Nat) (h : a.length = b.length) : sumC (splitN a b) d = if (memD a d && !memD b d) = true then 1 else 0 := by
  unfold splitN
  split
  · rename_i q
    have e : (memD a d && !memD b d) = memD a d := by
      cases h1 : memD a d with
      | false => rfl
      | true =>
        cases h2 : memD b d with
        | false => rfl
        | true => exact (both_none a b d q h1 h2).elim
    rw [e]; simp [sumC, cnt]
  · rw [parts_eq a b h]
    exact parts_count a b d h
theorem sum_mul_if (f : List Nat → Nat) (c : Bool) : ∀ ps : List (List Nat), (ps.map fun p => if c = true then f p else 0).sum = if c = true then (ps.map f).sum else 0
  | [] => by simp
  | p :: ps => by
    rw [List.map_cons, List.sum_cons, sum_mul_if f c ps]
    cases c <;> simp
theorem without_count (d : List Nat) : ∀ (piece : List (List Nat)) (n : Nat) (acc : List (List Nat)), (∀ s ∈ piece, s.length = n) → (∀ p ∈ acc, p.length = n) →
    sumC (piece.foldl (fun parts s => parts.flatMap fun p => splitN p s) acc) d = if (piece.all fun s => !memD s d) = true then sumC acc d else 0
  | [], n, acc, _, _ => by simp
  | s :: piece, n, acc, hs, hp => by
    have hsl := hs s List.mem_cons_self
    rw [List.foldl_cons, without_count d piece n _ (fun t ht => hs t (List.mem_cons_of_mem _ ht)) (fun q hq => by
      obtain ⟨r, h1, h2⟩ := List.mem_flatMap.mp hq
      rw [splitN_len (by rw [hp r h1, hsl]) q h2, hp r h1])]
    have e : sumC (acc.flatMap fun p => splitN p s) d = if (!memD s d) = true then sumC acc d else 0 := by
      rw [sumC_flat]
      have : (acc.map fun p => sumC (splitN p s) d) = acc.map fun p => if (!memD s d) = true then cnt p d else 0 := by
        refine List.map_congr_left fun p h => ?_
        rw [split_count p s d (by rw [hp p h, hsl])]
        unfold cnt
        cases memD p d <;> cases memD s d <;> rfl
      rw [this]
      exact sum_mul_if (fun p => cnt p d) _ acc
    rw [e, List.all_cons]
    cases (!memD s d) <;> simp

theorem dints_tupN (d : List Nat) : dints (tupN d) = d.map fun n : Nat => (n : Int) := by
  show rawI (d.map natD) = _
  induction d with
  | nil => rfl
  | cons n d ih => rw [List.map_cons, List.map_cons, ← ih]; rfl
theorem lex_cons (v w : Nat) (a b : List Nat) : ltD (tupN (v :: a)) (tupN (w :: b)) = if v = w then ltD (tupN a) (tupN b) else decide (v < w) := by
  unfold ltD
  rw [dints_tupN, dints_tupN, dints_tupN, dints_tupN, List.map_cons, List.map_cons, lexI]
  by_cases h : v = w
  · rw [if_pos h, if_pos (by omega)]
  · rw [if_neg h, if_neg (by omega)]; simp
theorem vals_sorted (m : Nat) : (valsN m).Pairwise (· < ·) := List.Pairwise.filter _ List.pairwise_lt_range
theorem disks_sorted : ∀ s : List Nat, (disksR s).Pairwise fun a b => ltD (tupN b) (tupN a) = false
  | [] => List.pairwise_singleton _ _
  | m :: s => by
    rw [disksR, List.pairwise_flatMap]
    refine ⟨fun v _ => ?_, ?_⟩
    · rw [List.pairwise_map]
      refine (disks_sorted s).imp fun h => ?_
      rw [lex_cons, if_pos rfl]; exact h
    · refine (vals_sorted m).imp fun {v w} h a ha b hb => ?_
      obtain ⟨c, _, rfl⟩ := List.mem_map.mp ha
      obtain ⟨d, _, rfl⟩ := List.mem_map.mp hb
      rw [lex_cons, if_neg (by omega)]
      exact decide_eq_false (by omega)
theorem cast_inj : ∀ {a b : List Nat}, (a.map fun n : Nat => (n : Int)) = b.map (fun n : Nat => (n : Int)) → a = b
  | [], [], _ => rfl
  | [], _ :: _, h => by simp at h
  | _ :: _, [], h => by simp at h
  | x :: a, y :: b, h => by
    rw [List.map_cons, List.map_cons] at h
    obtain ⟨h1, h2⟩ := List.cons.inj h
    rw [cast_inj h2, show x = y by omega]
theorem ltD_anti {a b : List Nat} (h : ltD (tupN a) (tupN b) = false) (k : ltD (tupN b) (tupN a) = false) : a = b := by
  unfold ltD at h k
  rw [lexI_L] at h k
  have := lexL_anti h k
  rw [dints_tupN, dints_tupN] at this
  exact cast_inj this
theorem sort_tup {xs ys : List (List Nat)} (p : xs.Perm ys) (hs : ys.Pairwise fun a b => ltD (tupN b) (tupN a) = false) : sortD (xs.map tupN) = ys.map tupN := by
  refine List.Perm.eq_of_pairwise (le := fun a b => ltD b a = false) ?_ (sortD_sorted _) ?_ ((sortD_perm _).trans (p.map tupN))
  · intro a b ha hb h1 h2
    obtain ⟨x, _, rfl⟩ := List.mem_map.mp ((sortD_perm _).mem_iff.mp ha)
    obtain ⟨y, _, rfl⟩ := List.mem_map.mp hb
    rw [ltD_anti h2 h1]
  · rw [List.pairwise_map]; exact hs
theorem allInts_nat (d : List Nat) : allInts (d.map natD) = true := by
  unfold allInts
  rw [List.all_map]
  exact List.all_eq_true.mpr fun _ _ => rfl
theorem op_sortedT {xs ys : List (List Nat)} (p : xs.Perm ys) (hs : ys.Pairwise fun a b => ltD (tupN b) (tupN a) = false) (hn : ∀ d ∈ xs, d ≠ []) : opD .sorted [.lst (xs.map tupN)] = some (.mls (ys.map tupN)) := by
  show (if allTups (xs.map tupN) = true then some (D.mls (sortD (xs.map tupN))) else none) = _
  rw [if_pos, sort_tup p hs]
  unfold allTups
  rw [List.all_map]
  refine List.all_eq_true.mpr fun d hd => ?_
  show (!(d.map natD).isEmpty && allInts (d.map natD)) = true
  rw [allInts_nat]
  cases d with
  | nil => exact (hn [] hd rfl).elim
  | cons _ _ => rfl
theorem mem_disks {s d : List Nat} : d ∈ disksR s ↔ memD s d = true := by
  rw [← List.count_pos_iff, disks_count]
  unfold cnt
  split <;> simp_all
theorem mem_in : ∀ {s t d : List Nat}, memD t d = true → s.length = t.length → memD s d = inN s d
  | [], [], [], _, _ => rfl
  | m :: s, n :: t, v :: d, h, hl => by
    rw [memD] at h
    simp only [Bool.and_eq_true] at h
    have ih := mem_in (s := s) h.2 (by simpa using hl)
    rw [memD, ih, h.1.1]
    simp [inN]
  | [], _ :: _, _, _, hl => by simp at hl
  | _ :: _, [], _, _, hl => by simp at hl
  | _ :: _, _ :: _, [], h, _ => by simp [memD] at h
  | [], [], _ :: _, h, _ => by simp [memD] at h
theorem parts_perm (a : List Nat) (piece : List (List Nat)) (hs : ∀ s ∈ piece, s.length = a.length) :
    ((withoutN a piece).flatMap disksN).Perm ((disksN a).filter fun d => !hasN piece d) := by
  rw [List.perm_iff_count]
  intro d
  have e1 : ((withoutN a piece).flatMap disksN).count d = sumC (withoutN a piece) d := by
    rw [List.count_flatMap]
    unfold sumC
    congr 1
    refine List.map_congr_left fun p _ => ?_
    show (disksN p).count d = _
    rw [disks_eq, disks_count]
  rw [e1]
  unfold withoutN
  rw [without_count d piece a.length [a] hs (fun p hp => by rw [List.mem_singleton.mp hp]), disks_eq]
  have e2 : sumC [a] d = cnt a d := by simp [sumC]
  rw [e2]
  by_cases hm : memD a d = true
  · have e3 : (piece.all fun s => !memD s d) = !hasN piece d := by
      unfold hasN
      rw [List.not_any_eq_all_not]
      have : ∀ s ∈ piece, (!memD s d) = !inN s d := fun s h => by rw [mem_in hm (hs s h)]
      clear e1 e2 hs
      induction piece with
      | nil => rfl
      | cons s p ih => rw [List.all_cons, List.all_cons, this s List.mem_cons_self, ih fun t ht => this t (List.mem_cons_of_mem _ ht)]
    rw [e3]
    by_cases h : (!hasN piece d) = true
    · rw [if_pos h, List.count_filter (p := fun d => !hasN piece d) h, disks_count]
    · rw [if_neg h, List.count_eq_zero.mpr]
      intro q
      exact h (List.mem_filter.mp q).2
  · have e4 : cnt a d = 0 := by unfold cnt; rw [if_neg hm]
    rw [e4, List.count_eq_zero.mpr]
    · simp
    · intro q
      exact hm (mem_disks.mp (List.mem_filter.mp q).1)
theorem vals_len (m : Nat) : (valsN m).length ≤ 16 := Nat.le_trans (List.length_filter_le ..) (by simp)
theorem disks_le : ∀ s : List Nat, (disksR s).length ≤ 16 ^ s.length
  | [] => by simp [disksR]
  | m :: s => by
    rw [disksR, List.length_flatMap]
    have e : ((valsN m).map fun v => ((disksR s).map (v :: ·)).length) = (valsN m).map fun _ => (disksR s).length := List.map_congr_left fun v _ => by simp
    rw [e]
    have e2 : ∀ l : List Nat, (l.map fun _ => (disksR s).length).sum = l.length * (disksR s).length := by
      intro l
      induction l with
      | nil => simp
      | cons x l ih => rw [List.map_cons, List.sum_cons, ih, List.length_cons, Nat.add_mul]; omega
    rw [e2, List.length_cons, Nat.pow_succ, Nat.mul_comm]
    exact Nat.mul_le_mul (disks_le s) (vals_len m)

theorem op_isTl {ds : List D} : opD (.isT "list") [.lst ds] = some (.bl true) := rfl
local macro_rules | `(tactic| walk_at "op2") => `(tactic| first
  | with_reducible exact op_isTl | walk_at "op3")
def pieceOf (ns : List Int) : List (List Nat) := if cellI ns 4 % 4 = 1 then pieceN (cellI ns 3) (sizesN ns 0) ++ pieceN (cellI ns 4 / 4) (sizesN ns 0) else pieceN (cellI ns 3) (sizesN ns 0)
theorem sketchN_len (c : Int) (sizes : List Nat) : (sketchN c sizes).length = sizes.length := by unfold sketchN; simp
theorem pieceN_len (c : Int) (sizes : List Nat) : ∀ s ∈ pieceN c sizes, s.length = sizes.length := by
  intro s hs
  obtain ⟨k, _, rfl⟩ := List.mem_map.mp hs
  exact sketchN_len _ _
theorem pcnt_le (c : Int) : pcnt c ≤ 2 := by
  unfold pcnt
  have : (c % 4).toNat = 0 ∨ (c % 4).toNat = 1 ∨ (c % 4).toNat = 2 ∨ (c % 4).toNat = 3 := by omega
  rcases this with e | e | e | e <;> rw [e] <;> decide
theorem pieceN_cnt (c : Int) (sizes : List Nat) : (pieceN c sizes).length ≤ 2 := by unfold pieceN; rw [List.length_map, List.length_range]; exact pcnt_le c
theorem splitN_cnt (a b : List Nat) : (splitN a b).length ≤ a.length + 1 := by
  unfold splitN
  split
  · simp
  · exact Nat.le_trans (List.length_filterMap_le ..) (by simp)
theorem withoutN_cnt0 {n : Nat} : ∀ (piece : List (List Nat)) (acc : List (List Nat)), (∀ s ∈ piece, s.length = n) → (∀ p ∈ acc, p.length = n) → (piece.foldl (fun parts s => parts.flatMap fun p => splitN p s) acc).length ≤ acc.length * (n + 1) ^ piece.length
  | [], acc, _, _ => by simp
  | s :: piece, acc, hs, hp => by
    rw [List.foldl_cons]
    have hsl := hs s List.mem_cons_self
    refine Nat.le_trans (withoutN_cnt0 piece _ (fun t ht => hs t (List.mem_cons_of_mem _ ht)) fun q hq => ?_) ?_
    · obtain ⟨r, h1, h2⟩ := List.mem_flatMap.mp hq
      rw [splitN_len (by rw [hp r h1, hsl]) q h2, hp r h1]
    · have : (acc.flatMap fun p => splitN p s).length ≤ acc.length * (n + 1) := by
        clear hs
        induction acc with
        | nil => simp
        | cons p acc ih =>
          rw [List.flatMap_cons, List.length_append, List.length_cons, Nat.add_mul]
          have h1 := splitN_cnt p s
          rw [hp p List.mem_cons_self] at h1
          have h2 := ih fun q hq => hp q (List.mem_cons_of_mem _ hq)
          omega
      rw [List.length_cons, Nat.pow_succ, Nat.mul_comm ((n + 1) ^ piece.length), ← Nat.mul_assoc]
      exact Nat.mul_le_mul_right _ this
theorem withoutN_cnt {a : List Nat} {piece : List (List Nat)} (hs : ∀ s ∈ piece, s.length = a.length) (ha : a.length ≤ 4) (hp : piece.length ≤ 4) : (withoutN a piece).length ≤ 625 := by
  refine Nat.le_trans (withoutN_cnt0 piece [a] hs fun p h => by rw [List.mem_singleton.mp h]) ?_
  simp only [List.length_singleton, Nat.one_mul]
  exact Nat.le_trans (Nat.pow_le_pow_left (show a.length + 1 ≤ 5 by omega) _) (Nat.pow_le_pow_right (by decide) hp)
theorem disksN_le4 {s : List Nat} (h : s.length ≤ 4) : (disksN s).length ≤ 65536 := by
  rw [disks_eq]
  exact Nat.le_trans (disks_le s) (Nat.le_trans (Nat.pow_le_pow_right (by decide) h) (by decide))
theorem disks_ok {s : List Nat} (h : s.length ≤ 4) : F_law_disks [tupN s] = .ok (.lst ((disksN s).map tupN)) [] :=
  e_law_disks s (by omega) fun pre post e => Nat.le_trans (disksN_le4 (by have := congrArg List.length e; simp at this; omega)) (by decide)
theorem without_ok {a : List Nat} {piece : List (List Nat)} (hs : ∀ s ∈ piece, s.length = a.length) (ha : a.length ≤ 4) (hp : piece.length ≤ 4) : F_without [tupN a, .lst (piece.map tupN)] = .ok (.lst ((withoutN a piece).map tupN)) [] :=
  e_without a piece hs (by omega) fun pre post e => by
    have h1 : ∀ s ∈ pre, s.length = a.length := fun s h => hs s (by rw [e]; simp [h])
    exact Nat.le_trans (withoutN_cnt h1 ha (by have := congrArg List.length e; simp at this; omega)) (by decide)

/-! ### before a deed: the mathematics -/
theorem memD_iff : ∀ {s d : List Nat}, s.length = d.length → (memD s d = true ↔ ∀ i < s.length, d.getD i 0 < 16 ∧ (s.getD i 0).testBit (d.getD i 0) = true)
  | [], [], _ => by simp [memD]
  | m :: s, v :: d, h => by
    have ih := memD_iff (s := s) (d := d) (by simpa using h)
    rw [memD, Bool.and_eq_true, ih]
    constructor
    · rintro ⟨h1, h2⟩ i hi
      cases i with
      | zero => simpa using h1
      | succ i => simpa using h2 i (by simpa using hi)
    · intro k
      refine ⟨by simpa using k 0 (by simp), fun i hi => ?_⟩
      simpa using k (i + 1) (by simpa using hi)
  | [], _ :: _, h => by simp at h
  | _ :: _, [], h => by simp at h
theorem disks_sub : ∀ (M F : List Nat), M.length = F.length → (∀ i < M.length, ∀ v, (M.getD i 0).testBit v = true → (F.getD i 0).testBit v = true) → disksR M = (disksR F).filter (memD M)
  | [], [], _, _ => rfl
  | m :: M, f :: F, hl, h => by
    have ih := disks_sub M F (by simpa using hl) (fun i hi v k => by simpa using h (i + 1) (by simpa using hi) v (by simpa using k))
    have h0 : ∀ v, m.testBit v = true → f.testBit v = true := fun v k => by simpa using h 0 (by simp) v (by simpa using k)
    have hv : valsN m = (valsN f).filter fun v => m.testBit v := by
      unfold valsN
      rw [List.filter_filter]
      refine List.filter_congr fun v _ => ?_
      cases e : m.testBit v with
      | false => rfl
      | true => rw [h0 v e]; rfl
    have hlt : ∀ v ∈ valsN f, v < 16 := fun v hv => by
      have := (List.mem_filter.mp hv).1
      exact List.mem_range.mp this
    rw [disksR, disksR, hv, List.filter_flatMap]
    generalize hV : valsN f = V at hlt
    clear hV hv
    induction V with
    | nil => rfl
    | cons v V ihV =>
      have hvt := hlt v List.mem_cons_self
      rw [List.filter_cons, List.flatMap_cons]
      have e1 : ((disksR F).map (v :: ·)).filter (memD (m :: M)) = if m.testBit v = true then (disksR M).map (v :: ·) else [] := by
        rw [List.filter_map, ih]
        split
        · rename_i q
          congr 1
          refine List.filter_congr fun d _ => ?_
          show memD (m :: M) (v :: d) = _
          rw [memD, q, decide_eq_true hvt]; rfl
        · rename_i q
          rw [List.map_eq_nil_iff, List.filter_eq_nil_iff]
          intro d _ k
          have k : memD (m :: M) (v :: d) = true := k
          rw [memD] at k
          simp_all
      rw [e1]
      split
      · rename_i q
        rw [List.flatMap_cons, ihV fun w hw => hlt w (List.mem_cons_of_mem _ hw)]
      · rename_i q
        rw [ihV fun w hw => hlt w (List.mem_cons_of_mem _ hw)]; rfl
  | [], _ :: _, h, _ => by simp at h
  | _ :: _, [], h, _ => by simp at h
theorem getD_set {vs : List Nat} {i k x : Nat} (hi : i < vs.length) : (vs.set i x).getD k 0 = if i = k then x else vs.getD k 0 := by
  rw [List.getD_eq_getElem?_getD, List.getD_eq_getElem?_getD, List.getElem?_set]
  by_cases e : i = k
  · rw [if_pos e, if_pos e]
    first | rfl | (rw [if_pos (by omega)]; rfl)
  · rw [if_neg e, if_neg e]
theorem fullSt_at {full : List Nat} {k : Nat} : ∀ (l : List (Nat × Src)) (vs : List Nat), (∀ p ∈ l, p.1 < vs.length) → (l.foldl (fullSt full) vs).getD k 0 = if l.any (fun p => decide (p.1 = k)) = true then full.getD k 0 else vs.getD k 0
  | [], vs, _ => by simp
  | p :: l, vs, h => by
    rw [List.foldl_cons, fullSt_at l _ (fun q hq => by unfold fullSt; rw [List.length_set]; exact h q (List.mem_cons_of_mem _ hq))]
    unfold fullSt
    rw [getD_set (h p List.mem_cons_self), List.any_cons]
    by_cases e : p.1 = k
    · subst e; simp
    · rw [if_neg e, decide_eq_false e, Bool.false_or]
def cpB (s : List Nat) (k v : Nat) (p : Nat × Src) : Bool := match p.2 with
  | .set _ => true
  | .cp j => !decide (j = k) || (s.getD p.1 0).testBit v
theorem cpSt_at {s : List Nat} {k v : Nat} : ∀ (l : List (Nat × Src)) (vs : List Nat), (∀ p ∈ l, ∀ j, p.2 = .cp j → j < vs.length) → ((l.foldl (cpSt s) vs).getD k 0).testBit v = ((vs.getD k 0).testBit v && l.all (cpB s k v))
  | [], vs, _ => by simp
  | (a, .set w) :: l, vs, h => by
    rw [List.foldl_cons, show cpSt s vs (a, .set w) = vs from rfl, cpSt_at l _ (fun q hq => h q (List.mem_cons_of_mem _ hq)), List.all_cons]
    rfl
  | (a, .cp j) :: l, vs, h => by
    have hj : j < vs.length := h (a, .cp j) List.mem_cons_self j rfl
    rw [List.foldl_cons, cpSt_at l _ (fun q hq i e => by rw [cpSt_len1]; exact h q (List.mem_cons_of_mem _ hq) i e), List.all_cons]
    show (((vs.set j (vs.getD j 0 &&& s.getD a 0)).getD k 0).testBit v && _) = ((vs.getD k 0).testBit v && ((!decide (j = k) || (s.getD a 0).testBit v) && _))
    rw [getD_set hj]
    by_cases e : j = k
    · subst e
      rw [if_pos rfl, Nat.testBit_and]
      simp [Bool.and_assoc]
    · rw [if_neg e]
      simp [e]
theorem gdSt_at {k v : Nat} : ∀ (l : List (Nat × Nat)) (vs : List Nat), (∀ p ∈ l, p.1 < vs.length) → ((l.foldl gdSt vs).getD k 0).testBit v = ((vs.getD k 0).testBit v && l.all fun p => !decide (p.1 = k) || p.2.testBit v)
  | [], vs, _ => by simp
  | (a, m) :: l, vs, h => by
    have hj : a < vs.length := h (a, m) List.mem_cons_self
    rw [List.foldl_cons, gdSt_at l _ (fun q hq => by unfold gdSt; rw [List.length_set]; exact h q (List.mem_cons_of_mem _ hq)), List.all_cons]
    show (((vs.set a (vs.getD a 0 &&& m)).getD k 0).testBit v && _) = ((vs.getD k 0).testBit v && ((!decide (a = k) || m.testBit v) && _))
    rw [getD_set hj]
    by_cases e : a = k
    · subst e
      rw [if_pos rfl, Nat.testBit_and]
      simp [Bool.and_assoc]
    · rw [if_neg e]
      simp [e]
theorem after_len {d : Deed} {disk : List Nat} : (afterN d disk).length = disk.length := by unfold afterN; exact foldl_set_len (f := fun p => srcV disk p.2) _ _
theorem set_at0 {f : Nat × Src → Nat} {k : Nat} : ∀ (l : List (Nat × Src)) (vs : List Nat), (∀ p ∈ l, p.1 ≠ k) → (l.foldl (fun vs p => vs.set p.1 (f p)) vs).getD k 0 = vs.getD k 0
  | [], vs, _ => rfl
  | p :: l, vs, h => by
    rw [List.foldl_cons, set_at0 l _ (fun q hq => h q (List.mem_cons_of_mem _ hq))]
    rw [List.getD_eq_getElem?_getD, List.getD_eq_getElem?_getD, List.getElem?_set_ne (h p List.mem_cons_self)]
theorem set_at1 {f : Nat × Src → Nat} {k : Nat} {src : Src} : ∀ (l : List (Nat × Src)) (vs : List Nat), (l.map (·.1)).Pairwise (· < ·) → (k, src) ∈ l → k < vs.length → (l.foldl (fun vs p => vs.set p.1 (f p)) vs).getD k 0 = f (k, src)
  | [], vs, _, h, _ => nomatch h
  | p :: l, vs, hp, h, hl => by
    rw [List.map_cons, List.pairwise_cons] at hp
    rw [List.foldl_cons]
    rcases List.mem_cons.mp h with e | h
    · subst e
      rw [set_at0 l _ (fun q hq e => by have := hp.1 q.1 (List.mem_map_of_mem hq); rw [e] at this; exact Nat.lt_irrefl _ this), getD_set hl, if_pos rfl]
    · exact set_at1 l _ hp.2 h (by rw [List.length_set]; exact hl)
theorem after_at0 {d : Deed} {disk : List Nat} {k : Nat} (h : ∀ p ∈ d.chg, p.1 ≠ k) : (afterN d disk).getD k 0 = disk.getD k 0 := by unfold afterN; exact set_at0 _ _ h
theorem after_at1 {d : Deed} {disk : List Nat} {k : Nat} {src : Src} (hp : (d.chg.map (·.1)).Pairwise (· < ·)) (h : (k, src) ∈ d.chg) (hk : k < disk.length) : (afterN d disk).getD k 0 = srcV disk src := by unfold afterN; exact set_at1 (f := fun p => srcV disk p.2) _ _ hp h hk
theorem inN_iff : ∀ {s d : List Nat}, s.length = d.length → (inN s d = true ↔ ∀ i < s.length, (s.getD i 0).testBit (d.getD i 0) = true)
  | [], [], _ => by simp [inN]
  | m :: s, v :: d, h => by
    have ih := inN_iff (s := s) (d := d) (by simpa using h)
    show ((m.testBit v) && inN s d) = true ↔ _
    rw [Bool.and_eq_true, ih]
    constructor
    · rintro ⟨h1, h2⟩ i hi
      cases i with
      | zero => simpa using h1
      | succ i => simpa using h2 i (by simpa using hi)
    · intro k
      refine ⟨by simpa using k 0 (by simp), fun i hi => ?_⟩
      simpa using k (i + 1) (by simpa using hi)
  | [], _ :: _, h => by simp at h
  | _ :: _, [], h => by simp at h
theorem fullN_at {sizes : List Nat} {k : Nat} (hk : k < sizes.length) : (fullN sizes).getD k 0 = 2 ^ sizes.getD k 0 - 1 := by
  unfold fullN
  rw [List.getD_eq_getElem?_getD, List.getElem?_map, List.getD_eq_getElem?_getD, List.getElem?_eq_getElem hk]; rfl
theorem full_bit {s v : Nat} : (2 ^ s - 1).testBit v = decide (v < s) := by rw [Nat.testBit_two_pow_sub_one]
theorem masksN_len {full : List Nat} {d : Deed} {s : List Nat} : (masksN full d s).length = s.length := by unfold masksN; rw [gdSt_len, cpSt_len, fullSt_len]
theorem masksN_at {sizes s : List Nat} {d : Deed} {k v : Nat} (hd : DeedFit sizes d) (hs : s.length = sizes.length) : ((masksN (fullN sizes) d s).getD k 0).testBit v =
    ((if d.chg.any (fun p => decide (p.1 = k)) = true then (fullN sizes).getD k 0 else s.getD k 0).testBit v && (d.chg.all (cpB s k v) && d.guard.all fun p => !decide (p.1 = k) || p.2.testBit v)) := by
  unfold masksN
  rw [gdSt_at _ _ (fun p hp => by rw [cpSt_len, fullSt_len, hs]; exact hd.ga.2 p hp), cpSt_at _ _ (fun p hp j e => by
    rw [fullSt_len, hs]
    have := hd.cm p hp
    rw [e] at this
    exact this.1), fullSt_at _ _ (fun p hp => by rw [hs]; exact hd.ca.2 p hp), Bool.and_assoc]
/-- what a deed leads into a sketch -/
theorem before_iff {sizes s : List Nat} {d : Deed} {disk : List Nat} (hd : DeedFit sizes d) (hs : s.length = sizes.length) (hsz : ∀ z ∈ sizes, z ≤ 16) (hdl : disk.length = sizes.length) (hdf : ∀ k < sizes.length, disk.getD k 0 < sizes.getD k 0) :
    (canN d disk && inN s (afterN d disk)) = (d.chg.all (setsOk s) && memD (masksN (fullN sizes) d s) disk) := by
  rw [Bool.eq_iff_iff, Bool.and_eq_true, Bool.and_eq_true, memD_iff (by rw [masksN_len, hs, hdl]), inN_iff (by rw [after_len, hdl, hs]), masksN_len]
  have h16 : ∀ k < s.length, disk.getD k 0 < 16 := fun k hk => by
    have h1 := hdf k (by omega)
    have h2 := hsz (sizes.getD k 0) (getD_mem (by omega))
    omega
  unfold canN
  simp only [masksN_at hd hs, Bool.and_eq_true]
  constructor
  · rintro ⟨hg, ha⟩
    refine ⟨List.all_eq_true.mpr fun p hp => ?_, fun k hk => ⟨h16 k hk, ?_, List.all_eq_true.mpr fun p hp => ?_, List.all_eq_true.mpr fun p hp => ?_⟩⟩
    · obtain ⟨c, src⟩ := p
      have hc : c < sizes.length := hd.ca.2 _ hp
      have := ha c (by omega)
      rw [after_at1 hd.ca.1 hp (by omega)] at this
      cases src with
      | set v => exact this
      | cp j => rfl
    · split
      · rw [fullN_at (by omega), full_bit]
        exact decide_eq_true (hdf k (by omega))
      · rename_i q
        have := ha k hk
        rw [after_at0 (fun p hp e => q (List.any_eq_true.mpr ⟨p, hp, decide_eq_true e⟩))] at this
        exact this
    · obtain ⟨c, src⟩ := p
      have hc : c < sizes.length := hd.ca.2 _ hp
      have := ha c (by omega)
      rw [after_at1 hd.ca.1 hp (by omega)] at this
      cases src with
      | set v => rfl
      | cp j =>
        show (!decide (j = k) || (s.getD c 0).testBit (disk.getD k 0)) = true
        by_cases e : j = k
        · subst e
          have : (s.getD c 0).testBit (disk.getD j 0) = true := this
          rw [this, Bool.or_true]
        · simp [e]
    · by_cases e : p.1 = k
      · have := List.all_eq_true.mp hg p hp
        rw [e] at this
        rw [this, Bool.or_true]
      · simp [e]
  · rintro ⟨hset, hm⟩
    refine ⟨List.all_eq_true.mpr fun p hp => ?_, fun k hk => ?_⟩
    · have h1 : p.1 < sizes.length := hd.ga.2 p hp
      have := List.all_eq_true.mp (hm p.1 (by omega)).2.2.2 p hp
      simpa using this
    · by_cases q : ∃ p ∈ d.chg, p.1 = k
      · obtain ⟨⟨c, src⟩, hp, rfl⟩ := q
        rw [after_at1 hd.ca.1 hp (by omega)]
        cases src with
        | set v => exact List.all_eq_true.mp hset _ hp
        | cp j =>
          have hj : j < sizes.length := (hd.cm _ hp).1
          have := List.all_eq_true.mp (hm j (by omega)).2.2.1 _ hp
          have : (!decide (j = j) || (s.getD c 0).testBit (disk.getD j 0)) = true := this
          rw [decide_eq_true rfl, Bool.not_true, Bool.false_or] at this
          exact this
      · rw [after_at0 (fun p hp e => q ⟨p, hp, e⟩)]
        have := (hm k hk).2.1
        rw [if_neg (fun h => by
          obtain ⟨p, hp, e⟩ := List.any_eq_true.mp h
          exact q ⟨p, hp, of_decide_eq_true e⟩)] at this
        exact this
theorem mem_fullD {sizes disk : List Nat} (h : disk ∈ disksR (fullN sizes)) : disk.length = sizes.length ∧ ∀ k < sizes.length, disk.getD k 0 < sizes.getD k 0 := by
  have h1 := mem_disks.mp h
  have hl : disk.length = sizes.length := by
    have := disksN_len (fullN sizes) disk (by rw [disks_eq]; exact h)
    rw [this]; unfold fullN; simp
  refine ⟨hl, fun k hk => ?_⟩
  have := ((memD_iff (by rw [hl]; unfold fullN; simp)).mp h1 k (by unfold fullN; simpa using hk)).2
  rw [fullN_at hk, full_bit] at this
  exact of_decide_eq_true this
/-- the disks from which a deed leads into a sketch -/
theorem before_disks {sizes s : List Nat} {d : Deed} (hd : DeedFit sizes d) (hs : sketchB sizes s = true) (hsz : ∀ z ∈ sizes, z ≤ 16) :
    (disksR (fullN sizes)).filter (fun disk => canN d disk && inN s (afterN d disk)) = match beforeN (fullN sizes) d s with | some m => disksR m | none => [] := by
  have hb := Bool.and_eq_true_iff.mp hs
  have hl : s.length = sizes.length := of_decide_eq_true hb.1
  have e : (disksR (fullN sizes)).filter (fun disk => canN d disk && inN s (afterN d disk)) = (disksR (fullN sizes)).filter (fun disk => d.chg.all (setsOk s) && memD (masksN (fullN sizes) d s) disk) := by
    refine List.filter_congr fun disk h => ?_
    obtain ⟨h1, h2⟩ := mem_fullD h
    exact before_iff hd hl hsz h1 h2
  rw [e]
  have sub : disksR (masksN (fullN sizes) d s) = (disksR (fullN sizes)).filter (memD (masksN (fullN sizes) d s)) := by
    refine disks_sub _ _ (by rw [masksN_len, hl]; unfold fullN; simp) fun i hi v h => ?_
    rw [masksN_len] at hi
    have hi' : i < sizes.length := by omega
    rw [masksN_at hd hl, Bool.and_eq_true] at h
    have h1 := h.1
    split at h1
    · exact h1
    · have := List.all_eq_true.mp hb.2 (s.getD i 0, sizes.getD i 0) (by
        rw [List.mem_iff_getElem?]
        refine ⟨i, ?_⟩
        rw [List.getElem?_zip_eq_some]
        rw [List.getD_eq_getElem?_getD, List.getD_eq_getElem?_getD, List.getElem?_eq_getElem hi, List.getElem?_eq_getElem hi']
        exact ⟨rfl, rfl⟩)
      have h2 := of_decide_eq_true (Bool.and_eq_true_iff.mp this).2
      rw [fullN_at hi', full_bit]
      refine decide_eq_true ?_
      have h3 := Nat.ge_two_pow_of_testBit h1
      exact Decidable.byContradiction fun c => by
        have := Nat.pow_le_pow_right (show 2 > 0 by decide) (Nat.not_lt.mp c)
        have h2 : s.getD i 0 < 2 ^ sizes.getD i 0 := h2
        omega
  unfold beforeN
  cases hc : d.chg.all (setsOk s) with
  | false =>
    simp
  | true =>
    simp only [Bool.true_and]
    split
    · rename_i q m e
      split at e
      · cases e; exact sub.symm
      · cases e
    · rename_i q e
      split at e
      · cases e
      · rename_i h
        rw [← sub]
        have h : ∃ m ∈ masksN (fullN sizes) d s, m = 0 := by
          simpa using h
        obtain ⟨m, hm, rfl⟩ := h
        refine List.eq_nil_iff_forall_not_mem.mpr fun disk hd => ?_
        obtain ⟨i, hi, e⟩ := List.mem_iff_getElem.mp hm
        have h1 := (memD_iff (by rw [← disksN_len _ disk (by rw [disks_eq]; exact hd)])).mp (mem_disks.mp hd) i hi
        rw [show (masksN (fullN sizes) d s).getD i 0 = 0 by rw [List.getD_eq_getElem?_getD, List.getElem?_eq_getElem hi, e]; rfl] at h1
        simp at h1

/-! ### what the laws' heads share -/
theorem isT_tupN {l : List Nat} : opD (.isT "tuple") [tupN l] = some (.bl true) := rfl
local macro_rules | `(tactic| walk_at "op") => `(tactic| with_reducible exact isT_tupN)
theorem frz_encMm {c : List (Str × Nat)} {d : List Deed} {f : List Nat} : frz (encMm c d f) = encM c d f := by
  have h1 : stills (c.map encCell) = true := stills_map still_encCell _
  have h2 : stills (d.map encDeed) = true := stills_map still_encDeed _
  show D.ins 15 _ (frzs [.tup (c.map encCell), .tup (d.map encDeed), tupN f]) = _
  rw [frzs_still (by rw [stills_cons, still_tup, h1, stills_cons, still_tup, h2, stills_cons, still_tupN]; rfl)]
  rfl
local macro_rules | `(tactic| walk_at "frz") => `(tactic| with_reducible exact frz_encMm)
theorem sizes_frz {cells : List (Str × Nat)} {sizes : List Nat} (h : cells.map (fun p => p.2) = sizes) : frz (.mls (cells.map fun p => natD p.2)) = .lst (sizes.map natD) := by
  refine (frz_mls (stills_map (fun _ => rfl) _)).trans (congrArg D.lst ?_)
  rw [← h, List.map_map]; rfl
local macro_rules | `(tactic| walk_at "still") => `(tactic| with_reducible exact still_encM)
local macro_rules | `(tactic| walk_at "ev") => `(tactic| ((with_reducible refine' fld_cells ?k1 ?k2); (case k1 => walk_at "ev"); (case k2 => rfl)))
local macro_rules | `(tactic| walk_at "ev") => `(tactic| ((with_reducible refine' fld_deeds ?k1 ?k2); (case k1 => walk_at "ev"); (case k2 => rfl)))
local macro_rules | `(tactic| walk_at "ev") => `(tactic| ((with_reducible refine' fld_first ?k1 ?k2); (case k1 => walk_at "ev"); (case k2 => rfl)))
/-- the machine drawn, with its deeds -/
theorem deedsN_fit (ns : List Int) (i m : Nat) : ∀ d ∈ deedsN ns i m, DeedFit (sizesN ns i) d := by
  intro d hd
  obtain ⟨k, _, rfl⟩ := List.mem_map.mp hd
  exact deedN_fit _ _ _ fun s hs => (sizesN_ok ns i s hs).1
theorem deedsN_names (ns : List Int) (i m : Nat) : (deedsN ns i m).map (·.name) = (List.range (deedsN ns i m).length).map mName := by
  unfold deedsN
  rw [List.map_map, List.length_map, List.length_range]; rfl
theorem deedsN_len (ns : List Int) (i m : Nat) : (deedsN ns i m).length ≤ m := by
  unfold deedsN
  rw [List.length_map, List.length_range]
  have := Int.emod_lt_of_pos (cellI ns (i + 1)) (show (0 : Int) < ((m + 1 : Nat) : Int) by omega)
  omega
/-- a nonempty list of deeds: the drawn ones, or one -/
def deeds1 (ns : List Int) (i m j : Nat) : List Deed := if deedsN ns i m = [] then [deedN (cellI ns j) (sizesN ns i) 0] else deedsN ns i m
theorem deeds1_fit (ns : List Int) (i m j : Nat) : ∀ d ∈ deeds1 ns i m j, DeedFit (sizesN ns i) d := by
  intro d hd
  unfold deeds1 at hd
  split at hd
  · cases List.mem_singleton.mp hd
    exact deedN_fit _ _ _ fun s hs => (sizesN_ok ns i s hs).1
  · exact deedsN_fit ns i m d hd
theorem deeds1_names (ns : List Int) (i m j : Nat) : (deeds1 ns i m j).map (·.name) = (List.range (deeds1 ns i m j).length).map mName := by
  unfold deeds1
  split
  · rfl
  · exact deedsN_names ns i m
theorem deeds1_len (ns : List Int) (i m j : Nat) : 0 < (deeds1 ns i m j).length ∧ (deeds1 ns i m j).length ≤ m + 1 := by
  have := deedsN_len ns i m
  unfold deeds1
  split
  · exact ⟨Nat.one_pos, by simp⟩
  · rename_i h
    have := List.length_pos_iff.mpr h
    omega
theorem fit_ok {sizes : List Nat} {d : Deed} (h : DeedFit sizes d) : DeedOk sizes.length d :=
  ⟨fun p hp => h.ga.2 p hp, fun p hp => h.ca.2 p hp, fun p hp k e => by
    have := h.cm p hp
    rw [e] at this
    exact this.1⟩
theorem drawn_encM (ns : List Int) (i : Nat) (ds : List Deed) (hd : ∀ d ∈ ds, DeedFit (sizesN ns i) d) (hl : ds.length ≤ 9) (hn : ds.map (·.name) = (List.range ds.length).map mName) :
    F_Machine_init [.mns 15 [] [], .lst ((cellsN ns i).map encCell), .lst (ds.map encDeed), tupN (firstN ns i)] = .ok .non [encMm (cellsN ns i) ds (firstN ns i)] := e_Machine_init _ _ _ (drawn_fit ns i ds hd hl hn)
theorem at_fit {sizes : List Nat} {ds : List Deed} (hd : ∀ d ∈ ds, DeedFit sizes d) {i : Nat} (hi : i < ds.length) : DeedFit sizes (ds.getD i default) := by
  rw [List.getD_eq_getElem?_getD, List.getElem?_eq_getElem hi]
  exact hd _ (List.getElem_mem hi)
theorem sketchN_fit (c : Int) (sizes : List Nat) (hs : ∀ s ∈ sizes, 1 ≤ s) : sketchB sizes (sketchN c sizes) = true := by
  unfold sketchB
  rw [sketchN_len, decide_eq_true rfl, Bool.true_and]
  refine List.all_eq_true.mpr fun p hp => ?_
  obtain ⟨k, hk, e⟩ := List.getElem_of_mem hp
  rw [List.length_zip, sketchN_len, Nat.min_self] at hk
  rw [List.getElem_zip] at e
  have e1 : p.1 = sketchAt c sizes k := by rw [← e]; unfold sketchN; simp
  have e2 : p.2 = sizes.getD k 0 := by rw [← e, List.getD_eq_getElem?_getD, List.getElem?_eq_getElem hk]; rfl
  have h1 := hs _ (getD_mem hk)
  rw [e1, e2]
  unfold sketchAt
  split
  · unfold isMaskN
    have hm := Nat.mod_lt (mixN c (3 * k)) (show 0 < sizes.getD k 0 by omega)
    have := Nat.pow_lt_pow_right (show 1 < 2 by omega) hm
    have := Nat.pow_pos (n := mixN c (3 * k) % sizes.getD k 0) (show 0 < 2 by omega)
    simp only [Bool.and_eq_true, decide_eq_true_eq]
    omega
  · split
    · unfold isMaskN
      have := Nat.pow_le_pow_right (show 2 > 0 by omega) h1
      simp only [Bool.and_eq_true, decide_eq_true_eq]
      omega
    · exact isMask_maskN _ _ h1
theorem fullN_fit (sizes : List Nat) (hs : ∀ s ∈ sizes, 1 ≤ s) : sketchB sizes (fullN sizes) = true := by
  unfold sketchB
  rw [show (fullN sizes).length = sizes.length by unfold fullN; simp, decide_eq_true rfl, Bool.true_and]
  refine List.all_eq_true.mpr fun p hp => ?_
  obtain ⟨k, hk, e⟩ := List.getElem_of_mem hp
  have hk2 : k < sizes.length := by rw [List.length_zip] at hk; omega
  rw [List.getElem_zip] at e
  have e1 : p.1 = 2 ^ sizes[k] - 1 := by rw [← e]; unfold fullN; simp
  have e2 : p.2 = sizes[k] := by rw [← e]
  have h1 := hs _ (List.getElem_mem hk2)
  rw [e1, e2]
  unfold isMaskN
  have := Nat.pow_le_pow_right (show 2 > 0 by omega) h1
  simp only [Bool.and_eq_true, decide_eq_true_eq]
  omega
theorem SzOk.shl {sizes : List Nat} (h : SzOk sizes) {x : Nat} (hx : x ∈ sizes) : 0 ≤ (x : Int) ∧ (x : Int) ≤ 100000 := by have := h x hx; omega
local macro_rules | `(tactic| walk_at "side") => `(tactic| exact SzOk.shl (by assumption) (by assumption))
theorem full_map (sizes : List Nat) : (sizes.map fun z : Nat => D.int (2 ^ (z : Int).toNat - 1)) = (fullN sizes).map natD := by
  unfold fullN
  rw [List.map_map]
  refine List.map_congr_left fun z _ => ?_
  show D.int _ = D.int _
  rw [natPow1_cast, Int.toNat_natCast]
theorem fullN_len (sizes : List Nat) : (fullN sizes).length = sizes.length := by unfold fullN; rw [List.length_map]

theorem before_ne {sizes s m : List Nat} {d : Deed} (hd : DeedFit sizes d) (hs : sketchB sizes s = true) (hsz : ∀ z ∈ sizes, z ≤ 16) (h : beforeN (fullN sizes) d s = some m) : disksR m ≠ [] ∧ m.length = sizes.length := by
  have hb := Bool.and_eq_true_iff.mp hs
  have hl : s.length = sizes.length := of_decide_eq_true hb.1
  unfold beforeN at h
  split at h
  · rename_i q
    cases h
    have q := (Bool.and_eq_true_iff.mp q).2
    have hml : (masksN (fullN sizes) d s).length = sizes.length := by rw [masksN_len, hl]
    refine ⟨?_, hml⟩
    have key : ∀ k < sizes.length, ∃ v, v < 16 ∧ ((masksN (fullN sizes) d s).getD k 0).testBit v = true := fun k hk => by
      have h0 : (masksN (fullN sizes) d s).getD k 0 ≠ 0 := of_decide_eq_true (List.all_eq_true.mp q _ (getD_mem (by rw [hml]; exact hk)))
      obtain ⟨v, hv⟩ := Nat.exists_testBit_of_ne_zero h0
      refine ⟨v, ?_, hv⟩
      rw [masksN_at hd hl, Bool.and_eq_true] at hv
      have h1 := hv.1
      have hz := hsz _ (getD_mem hk)
      have hlt : ∀ x : Nat, x < 2 ^ sizes.getD k 0 → x.testBit v = true → v < 16 := fun x hx hb => by
        have h3 := Nat.ge_two_pow_of_testBit hb
        exact Decidable.byContradiction fun c => by
          have := Nat.pow_le_pow_right (show 2 > 0 by decide) (show sizes.getD k 0 ≤ v by omega)
          omega
      split at h1
      · rw [fullN_at hk] at h1
        have := Nat.pow_pos (n := sizes.getD k 0) (show 0 < 2 by omega)
        exact hlt _ (by omega) h1
      · refine hlt _ ?_ h1
        have := List.all_eq_true.mp hb.2 (s.getD k 0, sizes.getD k 0) (by
          rw [List.mem_iff_getElem?]
          refine ⟨k, ?_⟩
          rw [List.getElem?_zip_eq_some]
          rw [List.getD_eq_getElem?_getD, List.getD_eq_getElem?_getD, List.getElem?_eq_getElem hk, List.getElem?_eq_getElem (show k < s.length by omega)]
          exact ⟨rfl, rfl⟩)
        exact of_decide_eq_true (Bool.and_eq_true_iff.mp this).2
    rw [← hml] at key
    generalize masksN (fullN sizes) d s = m at key
    clear q hml
    induction m with
    | nil => simp [disksR]
    | cons a m ih =>
      have ih := ih fun k hk => by simpa using key (k + 1) (by simpa using hk)
      obtain ⟨v, h1, h2⟩ := key 0 (by simp)
      obtain ⟨d, hd⟩ := List.exists_mem_of_ne_nil _ ih
      refine List.ne_nil_of_mem (a := v :: d) (List.mem_flatMap.mpr ⟨v, ?_, List.mem_map.mpr ⟨d, hd, rfl⟩⟩)
      exact List.mem_filter.mpr ⟨List.mem_range.mpr h1, by simpa using h2⟩
  · cases h
def wrongN (s sizes : List Nat) : List (List Nat) := [s ++ [1], s.drop 1, 0 :: s.drop 1, 2 ^ sizes.getD 0 0 :: s.drop 1]
theorem wrongN_bad {s sizes : List Nat} (h : sketchB sizes s = true) (h1 : 1 ≤ sizes.length) : ∀ w ∈ wrongN s sizes, sketchB sizes w = false := by
  have hl : s.length = sizes.length := of_decide_eq_true (Bool.and_eq_true_iff.mp h).1
  obtain ⟨z, zs, rfl⟩ : ∃ z zs, sizes = z :: zs := by
    cases sizes with
    | nil => simp at h1
    | cons z zs => exact ⟨z, zs, rfl⟩
  obtain ⟨a, s, rfl⟩ : ∃ z zs, s = z :: zs := by
    cases s with
    | nil => simp at hl
    | cons z zs => exact ⟨z, zs, rfl⟩
  simp at hl
  intro w hw
  unfold wrongN at hw
  simp only [List.mem_cons, List.not_mem_nil, or_false] at hw
  rcases hw with rfl | rfl | rfl | rfl
  · unfold sketchB
    rw [decide_eq_false (by simp; omega)]; rfl
  · unfold sketchB
    rw [decide_eq_false (by simp; omega)]; rfl
  · show (_ && (isMaskN 0 z && _)) = false
    rw [show isMaskN 0 z = false from rfl, Bool.false_and, Bool.and_false]
  · show (_ && (isMaskN (2 ^ z) z && _)) = false
    rw [show isMaskN (2 ^ z) z = false by unfold isMaskN; simp, Bool.false_and, Bool.and_false]
theorem e_law_k08 (ns : List Int) : F_law_k08 [.lst (ns.map .int)] = .ok (.bl true) [] := by
  have hss := sizesN_sz ns 2
  have hso := sizesN_ok ns 2
  have hsl := sizesN_len ns 2
  have hcn := cntN_le ns 2
  have hP : F_law_parts [.lst (ns.map .int), .int 2, .int 8] = .ok (.tup [.lst ((cellsN ns 2).map encCell), .lst ((deedsN ns 2 8).map encDeed), tupN (firstN ns 2)]) [] := e_law_parts ns 2 8 (by decide) (by decide)
  have c0 : F_law_cell [.lst (ns.map .int), .int 0] = .ok (.int (cellI ns 0)) [] := cell_of ns _ 0 rfl
  have c1 : F_law_cell [.lst (ns.map .int), .int 1] = .ok (.int (cellI ns 1)) [] := cell_of ns _ 1 rfl
  have hcl : (cellsN ns 2).length ≤ 4 := by unfold cellsN; simp; omega
  have hsn := cellsN_sizes ns 2
  have hfz := sizes_frz hsn
  have hdf := deeds1_fit ns 2 8 1
  have hdl := deeds1_len ns 2 8 1
  have hmk := drawn_encM ns 2 (deeds1 ns 2 8 1) hdf hdl.2 (deeds1_names ns 2 8 1)
  have hdd : deeds1 ns 2 8 1 = if deedsN ns 2 8 = [] then [deedN (cellI ns 1) (sizesN ns 2) 0] else deedsN ns 2 8 := rfl
  have hsk : F_law_sketch [.int (cellI ns 0), .lst ((sizesN ns 2).map natD)] = .ok (tupN (sketchN (cellI ns 0) (sizesN ns 2))) [] := e_law_sketch _ _ hss (by omega)
  have hsf := sketchN_fit (cellI ns 0) (sizesN ns 2) (fun s h => (hso s h).1)
  have hde : F_law_deed [.int (cellI ns 1), .lst ((sizesN ns 2).map natD), .int 0] = .ok (encDeed (deedN (cellI ns 1) (sizesN ns 2) 0)) [] := e_law_deed _ _ _ hss (by omega) (by omega) (by decide) (by decide)
  have hcsz : ∀ p ∈ cellsN ns 2, 1 ≤ p.2 ∧ p.2 ≤ 16 := fun p hp => by
    have := hso p.2 (by rw [← hsn]; exact List.mem_map.mpr ⟨p, hp, rfl⟩)
    omega
  generalize cellsN ns 2 = cells at *
  generalize sizesN ns 2 = sizes at *
  generalize deedsN ns 2 8 = ds0 at *
  generalize deeds1 ns 2 8 1 = ds at *
  generalize firstN ns 2 = first at *
  generalize sketchN (cellI ns 0) sizes = s at *
  obtain ⟨i, hi⟩ : ∃ i : Nat, cellI ns 1 % ((ds.map encDeed).length : Nat) = i := ⟨(cellI ns 1 % ((ds.map encDeed).length : Nat)).toNat, by have := Int.emod_nonneg (cellI ns 1) (show (((ds.map encDeed).length : Nat) : Int) ≠ 0 by rw [List.length_map]; omega); omega⟩
  have hil : i < ds.length := by
    have := Int.emod_lt_of_pos (cellI ns 1) (show (0 : Int) < (((ds.map encDeed).length : Nat) : Int) by rw [List.length_map]; omega)
    rw [hi, List.length_map] at this
    omega
  have hop : opD .mod [.int (cellI ns 1), .int ((ds.map encDeed).length : Nat)] = some (.int (i : Int)) := by rw [op_mod (by rw [List.length_map]; omega), hi]
  have hm : still (encM cells ds first) = true := still_encM
  have hfi := at_fit hdf hil
  unfold F_law_k08 b_law_k08
  walk_at "in"
  walk_at "st"
  walk_at "st"
  with_reducible refine' wp_ifj (fun ρ => ρ = [some (.lst (ns.map .int)), some (.lst (cells.map encCell)), some (.lst (ds.map encDeed)), some (tupN first), some (.lst (sizes.map natD)), none, none, none, none, none, none, none, none, none]) ?m1_1 ?m1_2 ?m1_3 ?m1_4 ?m1_5
  case m1_1 => walk_at "ev"
  case m1_2 => rfl
  case m1_3 =>
    intro h
    try simp at h
    walk_at "st"
    walk_at "st"
    rw [hdd, if_pos h]
    walk_at "fin"
    rfl
  case m1_4 =>
    intro h
    try simp at h
    walk_at "st"
    rw [hdd, if_neg h]
  case m1_5 =>
    rintro ρ ⟨rfl⟩
    walk_at "st"
    walk_at "st"
    walk_at "st"
    have hsl2 : s.length = sizes.length := of_decide_eq_true (Bool.and_eq_true_iff.mp hsf).1
    have hW := wrongN_bad hsf (by omega)
    have hWl : (wrongN s sizes).length = 4 := rfl
    have r4 : F_law_refused_2 [encM cells ds first, tupN s, .int (-1)] = .ok (.str "deed") [] := refused_of _ _ _ 4 "deed" (e_beforeD cells ds first s (-1) hcsz (by rw [hsn]; exact hsf) (.inl (by decide))) (frz_still still_encM) (frz_still still_tupN) rfl still_encM still_tupN rfl (.inr ⟨rfl, rfl⟩)
    have r5 : F_law_refused_2 [encM cells ds first, tupN s, .int ((ds.map encDeed).length : Nat)] = .ok (.str "deed") [] := refused_of _ _ _ 4 "deed" (e_beforeD cells ds first s _ hcsz (by rw [hsn]; exact hsf) (.inr (by rw [List.length_map]; omega))) (frz_still still_encM) (frz_still still_tupN) rfl still_encM still_tupN rfl (.inr ⟨rfl, rfl⟩)
    have r3 : ∀ w ∈ wrongN s sizes, ∀ j : Int, F_law_refused_2 [encM cells ds first, tupN w, .int j] = .ok (.str "sketch") [] := fun w hw j => refused_of _ _ _ 3 "sketch" (e_beforeS cells ds first w j hcsz (by rw [hsn]; exact hW w hw)) (frz_still still_encM) (frz_still still_tupN) rfl still_encM still_tupN rfl (.inl ⟨rfl, rfl⟩)
    with_reducible refine' wp_ifs ?k1 ?k2 ?_ ?_
    case k1 => walk_at "ev"
    case k2 => rfl
    · intro _
      walk_at "env"
      obtain ⟨n, hn⟩ : ∃ n : Nat, cellI ns 0 % 4 = n := ⟨(cellI ns 0 % 4).toNat, by omega⟩
      have hn4 : n < 4 := by omega
      have hop4 : opD .mod [.int (cellI ns 0), .int 4] = some (.int (n : Int)) := by rw [op_mod (by decide), hn]
      have hwm : (wrongN s sizes).getD n default ∈ wrongN s sizes := by
        rw [List.getD_eq_getElem?_getD, List.getElem?_eq_getElem (by rw [hWl]; exact hn4)]
        exact List.getElem_mem _
      have r1 := r3 _ hwm (-1)
      have r2 := r3 _ hwm (i : Int)
      have hix : ixOf (.tup ((wrongN s sizes).map tupN)) (.int (n : Int)) = some (tupN ((wrongN s sizes).getD n default)) := ix_tup (by omega) (by rw [hWl]; omega)
      generalize (wrongN s sizes).getD n default = wr at r1 r2 hix
      have hst : stills (s.map natD) = true := still_tupN
      have hws : wrongN s sizes = [s ++ [1], s.drop 1, 0 :: s.drop 1, 2 ^ sizes.getD 0 0 :: s.drop 1] := rfl
      have hz : ixOf (.lst (sizes.map natD)) (.int 0) = some (natD (sizes.getD 0 0)) := ix_lst (by decide) (by omega)
      have hz1 := hss.at_ (k := 0) (by omega)
      have hz2 : sizes.getD 0 default = sizes.getD 0 0 := rfl
      with_reducible refine' wp_asg (d := tupN wr) ?j1 ?j2 ?j3 ?_
      case j1 =>
        with_reducible refine' ev_ix ?i1 ?i2 ?i3 ?i4
        case i1 => walk_at "ev"
        case i2 => walk_at "ev"
        case i3 => walk_at "place"
        case i4 =>
          refine Eq.trans (congrArg (fun d => ixOf d (.int (n : Int))) (congrArg D.tup ?_)) hix
          rw [hws]
          refine list_cons_eq ?_ (list_cons_eq ?_ (list_cons_eq ?_ (list_cons_eq ?_ rfl)))
          · unfold tupN; rw [List.map_append]; rfl
          · unfold tupN; rw [List.map_drop]; rfl
          · unfold tupN; rw [List.map_cons, List.map_drop]; rfl
          · unfold tupN; rw [List.map_cons, List.map_drop]
            refine congrArg D.tup (list_cons_eq (congrArg D.int ?_) rfl)
            rw [natPow_cast]; rfl
      case j2 => walk_at "place"
      case j3 => rfl
      walk_at "env"
      walk_at "st"
      walk_at "st"
      simp
    · intro _
      walk_at "env"
      walk_at "st"
      have hfu : F_law_disks [.tup (sizes.map fun z : Nat => D.int (2 ^ (z : Int).toNat - 1))] = .ok (.lst ((disksN (fullN sizes)).map tupN)) [] := by
        rw [full_map]
        exact disks_ok (by rw [fullN_len]; omega)
      have hdl16 := disksN_le4 (s := fullN sizes) (by rw [fullN_len]; omega)
      have hbe := e_before cells ds first s i hcsz (by omega) hil (by rw [hsn]; exact hsf) (by rw [hsn]; exact hfi)
      have hbd := before_disks hfi hsf (fun z hz => by have := hso z hz; omega)
      have hbn := fun m => before_ne (m := m) hfi hsf (fun z hz => by have := hso z hz; omega)
      rw [hsn] at hbe
      generalize hdd' : ds.getD i default = dd at *
      with_reducible refine' wp_for (enc := tupN) (xs := disksN (fullN sizes)) (fun pre ρ => ∃ x10, ρ = [some (.lst (ns.map .int)), some (.lst (cells.map encCell)), some (.lst (ds.map encDeed)), some (tupN first), some (.lst (sizes.map natD)), some (encM cells ds first), some (tupN s), some (.int (i : Int)), none, some (.mls ((pre.filter fun d => canN dd d && inN s (afterN dd d)).map tupN)), x10, none, none, none]) ?a2_1 ?a2_2 ?a2_3 ?a2_4 ?a2_5 ?a2_6 ?a2_7
      case a2_1 => walk_at "el"
      case a2_2 => walk_at "iter"
      case a2_3 => walk_at "still"
      case a2_4 => walk_at "place"
      case a2_5 => walk_at "fin0"
      case a2_6 =>
        rintro pre d post ρ hx ⟨x10, rfl⟩
        refine ⟨_, rfl, ?_⟩
        walk_at "env"
        have hdk := mem_fullD (by rw [← disks_eq, hx]; simp : d ∈ disksR (fullN sizes))
        have hok : DeedOk d.length (ds.getD ((i : Int)).toNat default) := by rw [Int.toNat_natCast, hdd', hdk.1]; exact fit_ok hfi
        have hca := e_law_can ds d i (by omega) (by omega) hok
        have haf := e_law_after ds d i (by omega) (by omega) hok
        have hin := e_law_in s (afterN dd d)
        rw [Int.toNat_natCast, hdd'] at hca haf
        have hlen : (pre.filter fun d => canN dd d && inN s (afterN dd d)).length ≤ 65536 := Nat.le_trans (List.length_filter_le ..) (by rw [hx] at hdl16; simp at hdl16; omega)
        walk_at "st"
        · walk_at "st"
          walk_at "st"
          rename_i h
          walk_at "fin"
          rw [List.filter_append, List.filter_cons, if_pos (by simpa using h)]
          simp
        · walk_at "st"
          rename_i h
          walk_at "fin"
          rw [List.filter_append, List.filter_cons, if_neg (by simpa using h)]
          simp
      case a2_7 =>
        rintro ρ ⟨x10, rfl⟩
        rw [disks_eq, hbd]
        clear hbd
        cases hb : beforeN (fullN sizes) dd s with
        | none =>
          rw [hb] at hbe
          walk_at "st"
          walk_at "st"
          walk_at "st"
          rfl
        | some m =>
          rw [hb] at hbe
          obtain ⟨h1, h2⟩ := hbn m hb
          have hdm := disks_ok (s := m) (by omega)
          rw [disks_eq] at hdm
          walk_at "st"
          walk_at "st"
          · rename_i h
            exact (h1 (by simpa using h)).elim
          · walk_at "st"
            simp
            omega

end U
set_option Elab.async false
set_option linter.all false
set_option maxRecDepth 100000
set_option maxHeartbeats 4000000
namespace K08
open U PySem PySem.Spec PyProof.Rows L2 Pd
def top (i : Nat) : Stmt := PySem.Challenge.pw_raisedwreck_k08_going_back.main.body.getD i (.Pass ⟨0, 0, 0, 0⟩)
def cls (i j : Nat) : Stmt := match top i with
  | .ClassDef (body := b) .. => b.getD j (.Pass ⟨0, 0, 0, 0⟩)
  | _ => .Pass ⟨0, 0, 0, 0⟩
abbrev st_law_cell : Stmt := top 23
def c_law_cell : Ck := { N := ["_law_script", "_law_k"], sc := defScope st_law_cell, own := defScope st_law_cell, fns := [], cls := [], gls := [], exn := [], exh := [], exi := none }
theorem k_law_cell : okB c_law_cell b_law_cell (defBody st_law_cell) = true := by decide +kernel
abbrev st_law_mix : Stmt := top 24
def c_law_mix : Ck := { N := ["_law_cell_here", "_law_k", "_law_number"], sc := defScope st_law_mix, own := defScope st_law_mix, fns := [], cls := [], gls := [], exn := [], exh := [], exi := none }
theorem k_law_mix : okB c_law_mix b_law_mix (defBody st_law_mix) = true := by decide +kernel
abbrev st_law_mask : Stmt := top 27
def c_law_mask : Ck := { N := ["_law_number", "_law_size"], sc := defScope st_law_mask, own := defScope st_law_mask, fns := [], cls := [], gls := [], exn := [], exh := [], exi := none }
theorem k_law_mask : okB c_law_mask b_law_mask (defBody st_law_mask) = true := by decide +kernel
abbrev st_law_deed : Stmt := top 28
def c_law_deed : Ck := { N := ["_law_cell_here", "_law_sizes", "_law_number", "_law_count", "_law_guard", "_law_changes", "_law_k", "_law_kind", "_law_other"], sc := defScope st_law_deed, own := defScope st_law_deed, fns := [.fn "_law_mix", .fn "_law_mask"], cls := [], gls := [], exn := [], exh := [], exi := none }
theorem k_law_deed : okB c_law_deed b_law_deed (defBody st_law_deed) = true := by decide +kernel
abbrev st_law_parts : Stmt := top 29
def c_law_parts : Ck := { N := ["_law_script", "_law_first", "_law_most", "_law_count", "_law_sizes", "_law_cells", "_law_deeds", "_law_k", "_law_initial", "_law_mask_here"], sc := defScope st_law_parts, own := defScope st_law_parts, fns := [.fn "_law_cell", .fn "_law_mix", .fn "_law_deed", .fn "_law_mask"], cls := [], gls := [], exn := [], exh := [], exi := none }
theorem k_law_parts : okB c_law_parts b_law_parts (defBody st_law_parts) = true := by decide +kernel
abbrev st_law_sketch : Stmt := top 30
def c_law_sketch : Ck := { N := ["_law_cell_here", "_law_sizes", "_law_masks", "_law_k", "_law_number", "_law_mask_here"], sc := defScope st_law_sketch, own := defScope st_law_sketch, fns := [.fn "_law_mix", .fn "_law_mask"], cls := [], gls := [], exn := [], exh := [], exi := none }
theorem k_law_sketch : okB c_law_sketch b_law_sketch (defBody st_law_sketch) = true := by decide +kernel
abbrev st_is_mask : Stmt := top 14
def c_is_mask : Ck := { N := ["mask", "size"], sc := defScope st_is_mask, own := defScope st_is_mask, fns := [], cls := [], gls := [], exn := [], exh := [], exi := none }
theorem k_is_mask : okB c_is_mask b_is_mask (defBody st_is_mask) = true := by decide +kernel
abbrev st_check_sketch : Stmt := top 17
def c_check_sketch : Ck := { N := ["machine", "sketch", "mask", "_", "size"], sc := defScope st_check_sketch, own := defScope st_check_sketch, fns := [.fn "is_mask"], cls := [], gls := [], exn := [(3, "InvalidSketch")], exh := [], exi := none }
theorem k_check_sketch : okB c_check_sketch b_check_sketch (defBody st_check_sketch) = true := by decide +kernel
abbrev st_check_deed : Stmt := top 18
def c_check_deed : Ck := { N := ["machine", "deed"], sc := defScope st_check_deed, own := defScope st_check_deed, fns := [], cls := [], gls := [], exn := [(4, "NoSuchDeed")], exh := [], exi := none }
theorem k_check_deed : okB c_check_deed b_check_deed (defBody st_check_deed) = true := by decide +kernel
abbrev st_Machine_full : Stmt := cls 16 2
def c_Machine_full : Ck := { N := ["self", "_", "size"], sc := defScope st_Machine_full, own := defScope st_Machine_full, fns := [], cls := [], gls := [], exn := [], exh := [], exi := none }
theorem k_Machine_full : okB c_Machine_full b_Machine_full (defBody st_Machine_full) = true := by decide +kernel
abbrev st_sketch_before : Stmt := top 20
def c_sketch_before : Ck := { N := ["machine", "sketch", "deed", "_", "guard", "changes", "masks", "full", "cell", "kind", "number", "mask"], sc := defScope st_sketch_before, own := defScope st_sketch_before, fns := [.prop 15 "full"], cls := [], gls := [], exn := [], exh := [], exi := none }
theorem k_sketch_before : okB c_sketch_before b_sketch_before (defBody st_sketch_before) = true := by decide +kernel
abbrev st_before : Stmt := top 21
def c_before : Ck := { N := ["machine", "sketch", "deed"], sc := defScope st_before, own := defScope st_before, fns := [.fn "check_sketch", .fn "check_deed", .fn "sketch_before"], cls := [], gls := [], exn := [], exh := [], exi := none }
theorem k_before : okB c_before b_before (defBody st_before) = true := by decide +kernel
abbrev st_law_refused_2 : Stmt := top 37
def c_law_refused_2 : Ck := { N := ["_law_machine", "_law_sketch_here", "_law_deed_here", "e"], sc := defScope st_law_refused_2, own := defScope st_law_refused_2, fns := [.fn "before"], cls := [], gls := [], exn := [], exh := [(0, "WreckError"), (3, "InvalidSketch"), (4, "NoSuchDeed")], exi := none }
theorem k_law_refused_2 : okB c_law_refused_2 b_law_refused_2 (defBody st_law_refused_2) = true := by decide +kernel
abbrev st_law_disks : Stmt := top 34
def c_law_disks : Ck := { N := ["_law_sketch_here", "_law_disks_here", "_law_mask_here", "_law_longer", "_law_disk", "_law_value"], sc := defScope st_law_disks, own := defScope st_law_disks, fns := [], cls := [], gls := [], exn := [], exh := [], exi := none }
theorem k_law_disks : okB c_law_disks b_law_disks (defBody st_law_disks) = true := by decide +kernel
abbrev st_law_can : Stmt := top 35
def c_law_can : Ck := { N := ["_law_deeds", "_law_disk", "_law_deed_here", "_law_cell_here", "_law_mask_here"], sc := defScope st_law_can, own := defScope st_law_can, fns := [], cls := [], gls := [], exn := [], exh := [], exi := none }
theorem k_law_can : okB c_law_can b_law_can (defBody st_law_can) = true := by decide +kernel
abbrev st_law_in : Stmt := top 32
def c_law_in : Ck := { N := ["_law_sketch_here", "_law_disk", "_law_mask_here", "_law_value"], sc := defScope st_law_in, own := defScope st_law_in, fns := [], cls := [], gls := [], exn := [], exh := [], exi := none }
theorem k_law_in : okB c_law_in b_law_in (defBody st_law_in) = true := by decide +kernel
abbrev st_law_after : Stmt := top 36
def c_law_after : Ck := { N := ["_law_deeds", "_law_disk", "_law_deed_here", "_law_values", "_law_cell_here", "_law_source"], sc := defScope st_law_after, own := defScope st_law_after, fns := [], cls := [], gls := [], exn := [], exh := [], exi := none }
theorem k_law_after : okB c_law_after b_law_after (defBody st_law_after) = true := by decide +kernel
abbrev st_is_name : Stmt := top 12
def c_is_name : Ck := { N := ["text", "char"], sc := defScope st_is_name, own := defScope st_is_name, fns := [], cls := [], gls := ["LONGEST_NAME", "LOWER", "DIGITS"], exn := [], exh := [], exi := none }
theorem k_is_name : okB c_is_name b_is_name (defBody st_is_name) = true := by decide +kernel
abbrev st_check_names : Stmt := top 13
def c_check_names : Ck := { N := ["names", "name"], sc := defScope st_check_names, own := defScope st_check_names, fns := [.fn "is_name"], cls := [], gls := [], exn := [(1, "InvalidMachine")], exh := [], exi := none }
theorem k_check_names : okB c_check_names b_check_names (defBody st_check_names) = true := by decide +kernel
abbrev st_check_order : Stmt := top 15
def c_check_order : Ck := { N := ["pairs", "count", "before", "cell", "_"], sc := defScope st_check_order, own := defScope st_check_order, fns := [], cls := [], gls := [], exn := [(1, "InvalidMachine")], exh := [], exi := none }
theorem k_check_order : okB c_check_order b_check_order (defBody st_check_order) = true := by decide +kernel
abbrev st_Machine_check_deed : Stmt := cls 16 1
def c_Machine_check_deed : Ck := { N := ["self", "sizes", "guard", "changes", "cell", "mask", "kind", "number"], sc := defScope st_Machine_check_deed, own := defScope st_Machine_check_deed, fns := [.fn "is_mask"], cls := [], gls := [], exn := [(1, "InvalidMachine")], exh := [], exi := none }
theorem k_Machine_check_deed : okB c_Machine_check_deed b_Machine_check_deed (defBody st_Machine_check_deed) = true := by decide +kernel
abbrev st_Machine_init : Stmt := cls 16 0
def c_Machine_init : Ck := { N := ["self", "cells", "deeds", "first", "sizes", "_", "guard", "changes", "size", "name", "deed", "mask"], sc := defScope st_Machine_init, own := defScope st_Machine_init, fns := [.fn "_check_names", .fn "_check_order", .meth 15 "_check_deed", .fn "is_mask"], cls := [], gls := ["MOST_CELLS", "MOST_DEEDS", "MOST_VALUES"], exn := [(1, "InvalidMachine")], exh := [], exi := some 0 }
theorem k_Machine_init : okB c_Machine_init b_Machine_init (defBody st_Machine_init) = true := by decide +kernel
abbrev st_law_k08 : Stmt := top 38
def c_law_k08 : Ck := { N := ["_law_script", "_law_cells", "_law_deeds", "_law_first", "_law_sizes", "_law_machine", "_law_sketch_here", "_law_deed_here", "_law_wrong", "_law_due", "_law_disk", "_law_actual", "_law_name", "_law_size"], sc := defScope st_law_k08, own := defScope st_law_k08, fns := [.fn "_law_parts", .fn "_law_deed", .fn "_law_cell", .fn "_law_sketch", .fn "_law_refused", .fn "_law_disks", .fn "_law_can", .fn "_law_in", .fn "_law_after", .fn "before"], cls := [(15, "Machine")], gls := [], exn := [], exh := [], exi := none }
theorem k_law_k08 : okB c_law_k08 b_law_k08 (defBody st_law_k08) = true := by decide +kernel
def d_law_cell : He.DefD := ⟨("_law_cell", none), "_law_cell", "_law_cell", defArgs st_law_cell, defBody st_law_cell, defScope st_law_cell, [], []⟩
def d_law_mix : He.DefD := ⟨("_law_mix", none), "_law_mix", "_law_mix", defArgs st_law_mix, defBody st_law_mix, defScope st_law_mix, [], []⟩
def d_law_mask : He.DefD := ⟨("_law_mask", none), "_law_mask", "_law_mask", defArgs st_law_mask, defBody st_law_mask, defScope st_law_mask, [], []⟩
def d_law_deed : He.DefD := ⟨("_law_deed", none), "_law_deed", "_law_deed", defArgs st_law_deed, defBody st_law_deed, defScope st_law_deed, [], []⟩
def d_law_parts : He.DefD := ⟨("_law_parts", none), "_law_parts", "_law_parts", defArgs st_law_parts, defBody st_law_parts, defScope st_law_parts, [], []⟩
def d_law_sketch : He.DefD := ⟨("_law_sketch", none), "_law_sketch", "_law_sketch", defArgs st_law_sketch, defBody st_law_sketch, defScope st_law_sketch, [], []⟩
def d_is_mask : He.DefD := ⟨("is_mask", none), "is_mask", "is_mask", defArgs st_is_mask, defBody st_is_mask, defScope st_is_mask, [], []⟩
def d_check_sketch : He.DefD := ⟨("check_sketch", none), "check_sketch", "check_sketch", defArgs st_check_sketch, defBody st_check_sketch, defScope st_check_sketch, [], []⟩
def d_check_deed : He.DefD := ⟨("check_deed", none), "check_deed", "check_deed", defArgs st_check_deed, defBody st_check_deed, defScope st_check_deed, [], []⟩
def d_Machine_full : He.DefD := ⟨("Machine", some "full"), "full", "Machine.full", defArgs st_Machine_full, defBody st_Machine_full, defScope st_Machine_full, [], []⟩
def d_sketch_before : He.DefD := ⟨("sketch_before", none), "sketch_before", "sketch_before", defArgs st_sketch_before, defBody st_sketch_before, defScope st_sketch_before, [], []⟩
def d_before : He.DefD := ⟨("before", none), "before", "before", defArgs st_before, defBody st_before, defScope st_before, [], []⟩
def d_law_refused_2 : He.DefD := ⟨("_law_refused", none), "_law_refused", "_law_refused", defArgs st_law_refused_2, defBody st_law_refused_2, defScope st_law_refused_2, [], []⟩
def d_law_disks : He.DefD := ⟨("_law_disks", none), "_law_disks", "_law_disks", defArgs st_law_disks, defBody st_law_disks, defScope st_law_disks, [], []⟩
def d_law_can : He.DefD := ⟨("_law_can", none), "_law_can", "_law_can", defArgs st_law_can, defBody st_law_can, defScope st_law_can, [], []⟩
def d_law_in : He.DefD := ⟨("_law_in", none), "_law_in", "_law_in", defArgs st_law_in, defBody st_law_in, defScope st_law_in, [], []⟩
def d_law_after : He.DefD := ⟨("_law_after", none), "_law_after", "_law_after", defArgs st_law_after, defBody st_law_after, defScope st_law_after, [], []⟩
def d_is_name : He.DefD := ⟨("is_name", none), "is_name", "is_name", defArgs st_is_name, defBody st_is_name, defScope st_is_name, [], []⟩
def d_check_names : He.DefD := ⟨("_check_names", none), "_check_names", "_check_names", defArgs st_check_names, defBody st_check_names, defScope st_check_names, [], []⟩
def d_check_order : He.DefD := ⟨("_check_order", none), "_check_order", "_check_order", defArgs st_check_order, defBody st_check_order, defScope st_check_order, [], []⟩
def d_Machine_check_deed : He.DefD := ⟨("Machine", some "_check_deed"), "_check_deed", "Machine._check_deed", defArgs st_Machine_check_deed, defBody st_Machine_check_deed, defScope st_Machine_check_deed, [], []⟩
def d_Machine_init : He.DefD := ⟨("Machine", some "__init__"), "__init__", "Machine.__init__", defArgs st_Machine_init, defBody st_Machine_init, defScope st_Machine_init, [], []⟩
def d_law_k08 : He.DefD := ⟨("law", none), "law", "law", defArgs st_law_k08, defBody st_law_k08, defScope st_law_k08, [], []⟩
def dn : List He.DefD := [d_law_cell, d_law_mix, d_law_mask, d_law_deed, d_law_parts, d_law_sketch, d_is_mask, d_check_sketch, d_check_deed, d_sketch_before, d_before, d_law_refused_2, d_law_disks, d_law_can, d_law_in, d_law_after, d_is_name, d_check_names, d_check_order, d_Machine_check_deed, d_Machine_init, d_law_k08]
def prN : List He.DefD := [d_Machine_full]
def exN : List (Nat × Str) := [(0, "WreckError"), (1, "InvalidMachine"), (3, "InvalidSketch"), (4, "NoSuchDeed")]
def fa : List He.Fa := ([.glo "_law_cell", .glo "_law_mix", .glo "_law_mask", .glo "_law_deed", .glo "_law_parts", .glo "_law_sketch", .glo "is_mask", .glo "check_sketch", .glo "check_deed", .glo "Machine", .cls "Machine", .glo "sketch_before", .glo "before", .glo "_law_refused", .glo "_law_disks", .glo "_law_can", .glo "_law_in", .glo "_law_after", .glo "is_name", .glo "_check_names"] : List He.Fa) ++ ([.glo "_check_order", .meth "Machine" "_check_deed", .mkr "Machine", .glo "law", .glo "WreckError", .glo "InvalidSketch", .glo "NoSuchDeed", .noat "Machine" "cells", .noat "Machine" "deeds", .int "LONGEST_NAME" 12, .str "LOWER" "abcdefghijklmnopqrstuvwxyz", .str "DIGITS" "0123456789", .noat "Machine" "first", .int "MOST_CELLS" 24, .int "MOST_DEEDS" 400, .int "MOST_VALUES" 16, .exc "InvalidSketch", .exc "NoSuchDeed", .glo "InvalidMachine", .exc "InvalidMachine"] : List He.Fa)
def clsN : List Str := (["WreckError", "InvalidMachine", "InvalidDisk", "InvalidSketch", "NoSuchDeed", "TooManyDisks", "NotContradictory", "InvalidForm", "InvalidFile", "NoRoom", "NoSuchFile", "PaperSyntaxError", "CannotDo", "MachineSyntaxError", "CaseSyntaxError", "Machine", "Paper", "Answer", "Search", "OrderPaper"] : List Str) ++ (["OrderAnswer", "MachineReader", "ChainForm", "ExtentForm", "LogForm", "JournalForm", "RootForm", "StripeForm", "BetweenPaper", "BetweenAnswer", "Case", "CaseReader", "DeedsAnswer", "Form"] : List Str)
def fldN : List Str := (["", "", "", "", "", "", "", "", "", "", "", "", "", "", "", "", "", "", "", ""] : List Str) ++ (["", "", "", "", "", "", "", "", "", "", "", "", "", ""] : List Str)
section
variable {P : Program} {w : World} {K : PySem.W.Frag} {mg : Str → Option Value} {base h : Heap}
abbrev gx (P : Program) (w : World) (K : PySem.W.Frag) (mg : Str → Option Value) (base : Heap) : Gx := ⟨P, w, K, mg, base, fun c => He.ga K (clsN.getD c Str.empty), fun c => fldN.getD c Str.empty, exN.map (·.1)⟩
theorem sc_law_cell : FnScope c_law_cell.N ["_law_script", "_law_k"] (defScope st_law_cell) := ⟨rfl, rfl, rfl, by decide +kernel, rfl, by decide +kernel, by decide +kernel⟩
theorem ok_law_cell (X : K.In h) (N : h.Ns mainGlobals mg) (y : Extra subT exN prN K) (c : He.SaysD (bnames.map He.Fa.free ++ fa) dn K) : FnIs (gx P w K mg base) 1 (He.fAd K d_law_cell.at_) ["_law_script", "_law_k"] fd_law_cell := by
  obtain ⟨fd, F⟩ := c.def_ 0 (d := d_law_cell) rfl
  have T : TOk (gx P w K mg base) c_law_cell 0 T_law_cell := TOk.by trivial trivial trivial trivial trivial trivial (exAll_of y.ex ⟨rfl, rfl, rfl, rfl, trivial⟩ rfl)
  have o : FnOk P w K mg base (L2.CX P w) 1 (He.fAd K d_law_cell.at_) fd ["_law_script", "_law_k"] (spD (gx P w K mg base) ⟨"_law_cell", [], runF T_law_cell 2 2 [] b_law_cell⟩) := def_ok (G := gx P w K mg base) F sc_law_cell rfl rfl (blt_of X N c) (.inl ⟨rfl, rfl⟩) fun ex W X hX => okB_ok b_law_cell hX T (XEOk.cold rfl) (defBody st_law_cell) k_law_cell
  rw [← fe_law_cell] at o
  exact FnIs.of (G := gx P w K mg base) F (F.bindsN (ps := ["_law_script", "_law_k"]) (fun _ _ _ _ _ _ us hl => match us, hl with | [_, _], _ => rfl)) o
theorem sc_law_mix : FnScope c_law_mix.N ["_law_cell_here", "_law_k"] (defScope st_law_mix) := ⟨rfl, rfl, rfl, by decide +kernel, rfl, by decide +kernel, by decide +kernel⟩
theorem ok_law_mix (X : K.In h) (N : h.Ns mainGlobals mg) (y : Extra subT exN prN K) (c : He.SaysD (bnames.map He.Fa.free ++ fa) dn K) : FnIs (gx P w K mg base) 1 (He.fAd K d_law_mix.at_) ["_law_cell_here", "_law_k"] fd_law_mix := by
  obtain ⟨fd, F⟩ := c.def_ 1 (d := d_law_mix) rfl
  have T : TOk (gx P w K mg base) c_law_mix 0 T_law_mix := TOk.by trivial trivial trivial trivial trivial trivial (exAll_of y.ex ⟨rfl, rfl, rfl, rfl, trivial⟩ rfl)
  have o : FnOk P w K mg base (L2.CX P w) 1 (He.fAd K d_law_mix.at_) fd ["_law_cell_here", "_law_k"] (spD (gx P w K mg base) ⟨"_law_mix", [], runF T_law_mix 2 3 [] b_law_mix⟩) := def_ok (G := gx P w K mg base) F sc_law_mix rfl rfl (blt_of X N c) (.inl ⟨rfl, rfl⟩) fun ex W X hX => okB_ok b_law_mix hX T (XEOk.cold rfl) (defBody st_law_mix) k_law_mix
  rw [← fe_law_mix] at o
  exact FnIs.of (G := gx P w K mg base) F (F.bindsN (ps := ["_law_cell_here", "_law_k"]) (fun _ _ _ _ _ _ us hl => match us, hl with | [_, _], _ => rfl)) o
theorem sc_law_mask : FnScope c_law_mask.N ["_law_number", "_law_size"] (defScope st_law_mask) := ⟨rfl, rfl, rfl, by decide +kernel, rfl, by decide +kernel, by decide +kernel⟩
theorem ok_law_mask (X : K.In h) (N : h.Ns mainGlobals mg) (y : Extra subT exN prN K) (c : He.SaysD (bnames.map He.Fa.free ++ fa) dn K) : FnIs (gx P w K mg base) 1 (He.fAd K d_law_mask.at_) ["_law_number", "_law_size"] fd_law_mask := by
  obtain ⟨fd, F⟩ := c.def_ 2 (d := d_law_mask) rfl
  have T : TOk (gx P w K mg base) c_law_mask 0 T_law_mask := TOk.by trivial trivial trivial trivial trivial trivial (exAll_of y.ex ⟨rfl, rfl, rfl, rfl, trivial⟩ rfl)
  have o : FnOk P w K mg base (L2.CX P w) 1 (He.fAd K d_law_mask.at_) fd ["_law_number", "_law_size"] (spD (gx P w K mg base) ⟨"_law_mask", [], runF T_law_mask 2 2 [] b_law_mask⟩) := def_ok (G := gx P w K mg base) F sc_law_mask rfl rfl (blt_of X N c) (.inl ⟨rfl, rfl⟩) fun ex W X hX => okB_ok b_law_mask hX T (XEOk.cold rfl) (defBody st_law_mask) k_law_mask
  rw [← fe_law_mask] at o
  exact FnIs.of (G := gx P w K mg base) F (F.bindsN (ps := ["_law_number", "_law_size"]) (fun _ _ _ _ _ _ us hl => match us, hl with | [_, _], _ => rfl)) o
theorem sc_law_deed : FnScope c_law_deed.N ["_law_cell_here", "_law_sizes", "_law_number"] (defScope st_law_deed) := ⟨rfl, rfl, rfl, by decide +kernel, rfl, by decide +kernel, by decide +kernel⟩
theorem ok_law_deed (X : K.In h) (N : h.Ns mainGlobals mg) (y : Extra subT exN prN K) (c : He.SaysD (bnames.map He.Fa.free ++ fa) dn K) : FnIs (gx P w K mg base) 3 (He.fAd K d_law_deed.at_) ["_law_cell_here", "_law_sizes", "_law_number"] fd_law_deed := by
  obtain ⟨fd, F⟩ := c.def_ 3 (d := d_law_deed) rfl
  have o_law_mix := ok_law_mix (P := P) (w := w) (base := base) X N y c
  have o_law_mask := ok_law_mask (P := P) (w := w) (base := base) X N y c
  have T : TOk (gx P w K mg base) c_law_deed 2 T_law_deed := TOk.by trivial trivial ⟨o_law_mix.fn (He.glo_ok X N (fact_of c 1 (f := .glo "_law_mix") rfl)) (by decide), o_law_mask.fn (He.glo_ok X N (fact_of c 2 (f := .glo "_law_mask") rfl)) (by decide), trivial⟩ trivial trivial trivial (exAll_of y.ex ⟨rfl, rfl, rfl, rfl, trivial⟩ rfl)
  have o : FnOk P w K mg base (L2.CX P w) 3 (He.fAd K d_law_deed.at_) fd ["_law_cell_here", "_law_sizes", "_law_number"] (spD (gx P w K mg base) ⟨"_law_deed", [], runF T_law_deed 3 9 [] b_law_deed⟩) := def_ok (G := gx P w K mg base) F sc_law_deed rfl rfl (blt_of X N c) (.inl ⟨rfl, rfl⟩) fun ex W X hX => okB_ok b_law_deed hX T (XEOk.cold rfl) (defBody st_law_deed) k_law_deed
  rw [← fe_law_deed] at o
  exact FnIs.of (G := gx P w K mg base) F (F.bindsN (ps := ["_law_cell_here", "_law_sizes", "_law_number"]) (fun _ _ _ _ _ _ us hl => match us, hl with | [_, _, _], _ => rfl)) o
theorem sc_law_parts : FnScope c_law_parts.N ["_law_script", "_law_first", "_law_most"] (defScope st_law_parts) := ⟨rfl, rfl, rfl, by decide +kernel, rfl, by decide +kernel, by decide +kernel⟩
theorem ok_law_parts (X : K.In h) (N : h.Ns mainGlobals mg) (y : Extra subT exN prN K) (c : He.SaysD (bnames.map He.Fa.free ++ fa) dn K) : FnIs (gx P w K mg base) 5 (He.fAd K d_law_parts.at_) ["_law_script", "_law_first", "_law_most"] fd_law_parts := by
  obtain ⟨fd, F⟩ := c.def_ 4 (d := d_law_parts) rfl
  have o_law_cell := ok_law_cell (P := P) (w := w) (base := base) X N y c
  have o_law_mix := ok_law_mix (P := P) (w := w) (base := base) X N y c
  have o_law_deed := ok_law_deed (P := P) (w := w) (base := base) X N y c
  have o_law_mask := ok_law_mask (P := P) (w := w) (base := base) X N y c
  have T : TOk (gx P w K mg base) c_law_parts 4 T_law_parts := TOk.by trivial trivial ⟨o_law_cell.fn (He.glo_ok X N (fact_of c 0 (f := .glo "_law_cell") rfl)) (by decide), o_law_mix.fn (He.glo_ok X N (fact_of c 1 (f := .glo "_law_mix") rfl)) (by decide), o_law_deed.fn (He.glo_ok X N (fact_of c 3 (f := .glo "_law_deed") rfl)) (by decide), o_law_mask.fn (He.glo_ok X N (fact_of c 2 (f := .glo "_law_mask") rfl)) (by decide), trivial⟩ trivial trivial trivial (exAll_of y.ex ⟨rfl, rfl, rfl, rfl, trivial⟩ rfl)
  have o : FnOk P w K mg base (L2.CX P w) 5 (He.fAd K d_law_parts.at_) fd ["_law_script", "_law_first", "_law_most"] (spD (gx P w K mg base) ⟨"_law_parts", [], runF T_law_parts 3 10 [] b_law_parts⟩) := def_ok (G := gx P w K mg base) F sc_law_parts rfl rfl (blt_of X N c) (.inl ⟨rfl, rfl⟩) fun ex W X hX => okB_ok b_law_parts hX T (XEOk.cold rfl) (defBody st_law_parts) k_law_parts
  rw [← fe_law_parts] at o
  exact FnIs.of (G := gx P w K mg base) F (F.bindsN (ps := ["_law_script", "_law_first", "_law_most"]) (fun _ _ _ _ _ _ us hl => match us, hl with | [_, _, _], _ => rfl)) o
theorem sc_law_sketch : FnScope c_law_sketch.N ["_law_cell_here", "_law_sizes"] (defScope st_law_sketch) := ⟨rfl, rfl, rfl, by decide +kernel, rfl, by decide +kernel, by decide +kernel⟩
theorem ok_law_sketch (X : K.In h) (N : h.Ns mainGlobals mg) (y : Extra subT exN prN K) (c : He.SaysD (bnames.map He.Fa.free ++ fa) dn K) : FnIs (gx P w K mg base) 3 (He.fAd K d_law_sketch.at_) ["_law_cell_here", "_law_sizes"] fd_law_sketch := by
  obtain ⟨fd, F⟩ := c.def_ 5 (d := d_law_sketch) rfl
  have o_law_mix := ok_law_mix (P := P) (w := w) (base := base) X N y c
  have o_law_mask := ok_law_mask (P := P) (w := w) (base := base) X N y c
  have T : TOk (gx P w K mg base) c_law_sketch 2 T_law_sketch := TOk.by trivial trivial ⟨o_law_mix.fn (He.glo_ok X N (fact_of c 1 (f := .glo "_law_mix") rfl)) (by decide), o_law_mask.fn (He.glo_ok X N (fact_of c 2 (f := .glo "_law_mask") rfl)) (by decide), trivial⟩ trivial trivial trivial (exAll_of y.ex ⟨rfl, rfl, rfl, rfl, trivial⟩ rfl)
  have o : FnOk P w K mg base (L2.CX P w) 3 (He.fAd K d_law_sketch.at_) fd ["_law_cell_here", "_law_sizes"] (spD (gx P w K mg base) ⟨"_law_sketch", [], runF T_law_sketch 2 6 [] b_law_sketch⟩) := def_ok (G := gx P w K mg base) F sc_law_sketch rfl rfl (blt_of X N c) (.inl ⟨rfl, rfl⟩) fun ex W X hX => okB_ok b_law_sketch hX T (XEOk.cold rfl) (defBody st_law_sketch) k_law_sketch
  rw [← fe_law_sketch] at o
  exact FnIs.of (G := gx P w K mg base) F (F.bindsN (ps := ["_law_cell_here", "_law_sizes"]) (fun _ _ _ _ _ _ us hl => match us, hl with | [_, _], _ => rfl)) o
theorem sc_is_mask : FnScope c_is_mask.N ["mask", "size"] (defScope st_is_mask) := ⟨rfl, rfl, rfl, by decide +kernel, rfl, by decide +kernel, by decide +kernel⟩
theorem ok_is_mask (X : K.In h) (N : h.Ns mainGlobals mg) (y : Extra subT exN prN K) (c : He.SaysD (bnames.map He.Fa.free ++ fa) dn K) : FnIs (gx P w K mg base) 1 (He.fAd K d_is_mask.at_) ["mask", "size"] fd_is_mask := by
  obtain ⟨fd, F⟩ := c.def_ 6 (d := d_is_mask) rfl
  have T : TOk (gx P w K mg base) c_is_mask 0 T_is_mask := TOk.by trivial trivial trivial trivial trivial trivial (exAll_of y.ex ⟨rfl, rfl, rfl, rfl, trivial⟩ rfl)
  have o : FnOk P w K mg base (L2.CX P w) 1 (He.fAd K d_is_mask.at_) fd ["mask", "size"] (spD (gx P w K mg base) ⟨"is_mask", [], runF T_is_mask 2 2 [] b_is_mask⟩) := def_ok (G := gx P w K mg base) F sc_is_mask rfl rfl (blt_of X N c) (.inl ⟨rfl, rfl⟩) fun ex W X hX => okB_ok b_is_mask hX T (XEOk.cold rfl) (defBody st_is_mask) k_is_mask
  rw [← fe_is_mask] at o
  exact FnIs.of (G := gx P w K mg base) F (F.bindsN (ps := ["mask", "size"]) (fun _ _ _ _ _ _ us hl => match us, hl with | [_, _], _ => rfl)) o
theorem sc_check_sketch : FnScope c_check_sketch.N ["machine", "sketch"] (defScope st_check_sketch) := ⟨rfl, rfl, rfl, by decide +kernel, rfl, by decide +kernel, by decide +kernel⟩
theorem ok_check_sketch (X : K.In h) (N : h.Ns mainGlobals mg) (y : Extra subT exN prN K) (c : He.SaysD (bnames.map He.Fa.free ++ fa) dn K) : FnIs (gx P w K mg base) 3 (He.fAd K d_check_sketch.at_) ["machine", "sketch"] fd_check_sketch := by
  obtain ⟨fd, F⟩ := c.def_ 7 (d := d_check_sketch) rfl
  have o_is_mask := ok_is_mask (P := P) (w := w) (base := base) X N y c
  have T : TOk (gx P w K mg base) c_check_sketch 2 T_check_sketch := TOk.by ⟨⟨He.cls_ok (fact_of c 10 (f := .cls "Machine") rfl), He.noat_ok (fact_of c 27 (f := .noat "Machine" "cells") rfl)⟩, trivial⟩ trivial ⟨o_is_mask.fn (He.glo_ok X N (fact_of c 6 (f := .glo "is_mask") rfl)) (by decide), trivial⟩ trivial ⟨exn_of (show 3 ∈ exN.map (·.1) by decide) (He.glo_ok X N (fact_of c 25 (f := .glo "InvalidSketch") rfl)) (He.exc_ok (fact_of c 36 (f := .exc "InvalidSketch") rfl)), trivial⟩ trivial (exAll_of y.ex ⟨rfl, rfl, rfl, rfl, trivial⟩ rfl)
  have o : FnOk P w K mg base (L2.CX P w) 3 (He.fAd K d_check_sketch.at_) fd ["machine", "sketch"] (spD (gx P w K mg base) ⟨"check_sketch", [], runF T_check_sketch 2 5 [] b_check_sketch⟩) := def_ok (G := gx P w K mg base) F sc_check_sketch rfl rfl (blt_of X N c) (.inl ⟨rfl, rfl⟩) fun ex W X hX => okB_ok b_check_sketch hX T (XEOk.cold rfl) (defBody st_check_sketch) k_check_sketch
  rw [← fe_check_sketch] at o
  exact FnIs.of (G := gx P w K mg base) F (F.bindsN (ps := ["machine", "sketch"]) (fun _ _ _ _ _ _ us hl => match us, hl with | [_, _], _ => rfl)) o
theorem sc_check_deed : FnScope c_check_deed.N ["machine", "deed"] (defScope st_check_deed) := ⟨rfl, rfl, rfl, by decide +kernel, rfl, by decide +kernel, by decide +kernel⟩
theorem ok_check_deed (X : K.In h) (N : h.Ns mainGlobals mg) (y : Extra subT exN prN K) (c : He.SaysD (bnames.map He.Fa.free ++ fa) dn K) : FnIs (gx P w K mg base) 1 (He.fAd K d_check_deed.at_) ["machine", "deed"] fd_check_deed := by
  obtain ⟨fd, F⟩ := c.def_ 8 (d := d_check_deed) rfl
  have T : TOk (gx P w K mg base) c_check_deed 0 T_check_deed := TOk.by ⟨⟨He.cls_ok (fact_of c 10 (f := .cls "Machine") rfl), He.noat_ok (fact_of c 28 (f := .noat "Machine" "deeds") rfl)⟩, trivial⟩ trivial trivial trivial ⟨exn_of (show 4 ∈ exN.map (·.1) by decide) (He.glo_ok X N (fact_of c 26 (f := .glo "NoSuchDeed") rfl)) (He.exc_ok (fact_of c 37 (f := .exc "NoSuchDeed") rfl)), trivial⟩ trivial (exAll_of y.ex ⟨rfl, rfl, rfl, rfl, trivial⟩ rfl)
  have o : FnOk P w K mg base (L2.CX P w) 1 (He.fAd K d_check_deed.at_) fd ["machine", "deed"] (spD (gx P w K mg base) ⟨"check_deed", [], runF T_check_deed 2 2 [] b_check_deed⟩) := def_ok (G := gx P w K mg base) F sc_check_deed rfl rfl (blt_of X N c) (.inl ⟨rfl, rfl⟩) fun ex W X hX => okB_ok b_check_deed hX T (XEOk.cold rfl) (defBody st_check_deed) k_check_deed
  rw [← fe_check_deed] at o
  exact FnIs.of (G := gx P w K mg base) F (F.bindsN (ps := ["machine", "deed"]) (fun _ _ _ _ _ _ us hl => match us, hl with | [_, _], _ => rfl)) o
theorem sc_Machine_full : FnScope c_Machine_full.N ["self"] (defScope st_Machine_full) := ⟨rfl, rfl, rfl, by decide +kernel, rfl, by decide +kernel, by decide +kernel⟩
theorem ok_Machine_full (X : K.In h) (N : h.Ns mainGlobals mg) (y : Extra subT exN prN K) (c : He.SaysD (bnames.map He.Fa.free ++ fa) dn K) : FnIs (gx P w K mg base) 1 (gAd K d_Machine_full.at_) ["self"] fd_Machine_full := by
  obtain ⟨pk, pw⟩ := y.prop 0 (d := d_Machine_full) rfl
  obtain ⟨fd, F⟩ := prop_funD pw pk
  have T : TOk (gx P w K mg base) c_Machine_full 0 T_Machine_full := TOk.by ⟨⟨He.cls_ok (fact_of c 10 (f := .cls "Machine") rfl), He.noat_ok (fact_of c 27 (f := .noat "Machine" "cells") rfl)⟩, trivial⟩ trivial trivial trivial trivial trivial (exAll_of y.ex ⟨rfl, rfl, rfl, rfl, trivial⟩ rfl)
  have o : FnOk P w K mg base (L2.CX P w) 1 (gAd K d_Machine_full.at_) fd ["self"] (spD (gx P w K mg base) ⟨"full", [], runF T_Machine_full 1 3 [] b_Machine_full⟩) := def_ok (G := gx P w K mg base) F sc_Machine_full rfl rfl (blt_of X N c) (.inl ⟨rfl, rfl⟩) fun ex W X hX => okB_ok b_Machine_full hX T (XEOk.cold rfl) (defBody st_Machine_full) k_Machine_full
  rw [← fe_Machine_full] at o
  exact FnIs.of (G := gx P w K mg base) F (F.bindsN (ps := ["self"]) (fun _ _ _ _ _ _ us hl => match us, hl with | [_], _ => rfl)) o
theorem sc_sketch_before : FnScope c_sketch_before.N ["machine", "sketch", "deed"] (defScope st_sketch_before) := ⟨rfl, rfl, rfl, by decide +kernel, rfl, by decide +kernel, by decide +kernel⟩
theorem ok_sketch_before (X : K.In h) (N : h.Ns mainGlobals mg) (y : Extra subT exN prN K) (c : He.SaysD (bnames.map He.Fa.free ++ fa) dn K) : FnIs (gx P w K mg base) 3 (He.fAd K d_sketch_before.at_) ["machine", "sketch", "deed"] fd_sketch_before := by
  obtain ⟨fd, F⟩ := c.def_ 9 (d := d_sketch_before) rfl
  have o_Machine_full := ok_Machine_full (P := P) (w := w) (base := base) X N y c
  have T : TOk (gx P w K mg base) c_sketch_before 2 T_sketch_before := TOk.by ⟨⟨He.cls_ok (fact_of c 10 (f := .cls "Machine") rfl), He.noat_ok (fact_of c 28 (f := .noat "Machine" "deeds") rfl)⟩, trivial⟩ trivial ⟨o_Machine_full.prop (He.cls_ok (fact_of c 10 (f := .cls "Machine") rfl)) (prop_of (d := d_Machine_full) rfl (y.prop 0 rfl).1) (by decide), trivial⟩ trivial trivial trivial (exAll_of y.ex ⟨rfl, rfl, rfl, rfl, trivial⟩ rfl)
  have o : FnOk P w K mg base (L2.CX P w) 3 (He.fAd K d_sketch_before.at_) fd ["machine", "sketch", "deed"] (spD (gx P w K mg base) ⟨"sketch_before", [], runF T_sketch_before 3 12 [] b_sketch_before⟩) := def_ok (G := gx P w K mg base) F sc_sketch_before rfl rfl (blt_of X N c) (.inl ⟨rfl, rfl⟩) fun ex W X hX => okB_ok b_sketch_before hX T (XEOk.cold rfl) (defBody st_sketch_before) k_sketch_before
  rw [← fe_sketch_before] at o
  exact FnIs.of (G := gx P w K mg base) F (F.bindsN (ps := ["machine", "sketch", "deed"]) (fun _ _ _ _ _ _ us hl => match us, hl with | [_, _, _], _ => rfl)) o
theorem sc_before : FnScope c_before.N ["machine", "sketch", "deed"] (defScope st_before) := ⟨rfl, rfl, rfl, by decide +kernel, rfl, by decide +kernel, by decide +kernel⟩
theorem ok_before (X : K.In h) (N : h.Ns mainGlobals mg) (y : Extra subT exN prN K) (c : He.SaysD (bnames.map He.Fa.free ++ fa) dn K) : FnIs (gx P w K mg base) 5 (He.fAd K d_before.at_) ["machine", "sketch", "deed"] fd_before := by
  obtain ⟨fd, F⟩ := c.def_ 10 (d := d_before) rfl
  have o_check_sketch := ok_check_sketch (P := P) (w := w) (base := base) X N y c
  have o_check_deed := ok_check_deed (P := P) (w := w) (base := base) X N y c
  have o_sketch_before := ok_sketch_before (P := P) (w := w) (base := base) X N y c
  have T : TOk (gx P w K mg base) c_before 4 T_before := TOk.by trivial trivial ⟨o_check_sketch.fn (He.glo_ok X N (fact_of c 7 (f := .glo "check_sketch") rfl)) (by decide), o_check_deed.fn (He.glo_ok X N (fact_of c 8 (f := .glo "check_deed") rfl)) (by decide), o_sketch_before.fn (He.glo_ok X N (fact_of c 11 (f := .glo "sketch_before") rfl)) (by decide), trivial⟩ trivial trivial trivial (exAll_of y.ex ⟨rfl, rfl, rfl, rfl, trivial⟩ rfl)
  have o : FnOk P w K mg base (L2.CX P w) 5 (He.fAd K d_before.at_) fd ["machine", "sketch", "deed"] (spD (gx P w K mg base) ⟨"before", [], runF T_before 3 3 [] b_before⟩) := def_ok (G := gx P w K mg base) F sc_before rfl rfl (blt_of X N c) (.inl ⟨rfl, rfl⟩) fun ex W X hX => okB_ok b_before hX T (XEOk.cold rfl) (defBody st_before) k_before
  rw [← fe_before] at o
  exact FnIs.of (G := gx P w K mg base) F (F.bindsN (ps := ["machine", "sketch", "deed"]) (fun _ _ _ _ _ _ us hl => match us, hl with | [_, _, _], _ => rfl)) o
theorem sc_law_refused_2 : FnScope c_law_refused_2.N ["_law_machine", "_law_sketch_here", "_law_deed_here"] (defScope st_law_refused_2) := ⟨rfl, rfl, rfl, by decide +kernel, rfl, by decide +kernel, by decide +kernel⟩
theorem ok_law_refused_2 (X : K.In h) (N : h.Ns mainGlobals mg) (y : Extra subT exN prN K) (c : He.SaysD (bnames.map He.Fa.free ++ fa) dn K) : FnIs (gx P w K mg base) 7 (He.fAd K d_law_refused_2.at_) ["_law_machine", "_law_sketch_here", "_law_deed_here"] fd_law_refused_2 := by
  obtain ⟨fd, F⟩ := c.def_ 11 (d := d_law_refused_2) rfl
  have o_before := ok_before (P := P) (w := w) (base := base) X N y c
  have T : TOk (gx P w K mg base) c_law_refused_2 6 T_law_refused_2 := TOk.by trivial trivial ⟨o_before.fn (He.glo_ok X N (fact_of c 12 (f := .glo "before") rfl)) (by decide), trivial⟩ trivial trivial ⟨⟨show 0 ∈ exN.map (·.1) by decide, He.glo_ok X N (fact_of c 24 (f := .glo "WreckError") rfl)⟩, ⟨show 3 ∈ exN.map (·.1) by decide, He.glo_ok X N (fact_of c 25 (f := .glo "InvalidSketch") rfl)⟩, ⟨show 4 ∈ exN.map (·.1) by decide, He.glo_ok X N (fact_of c 26 (f := .glo "NoSuchDeed") rfl)⟩, trivial⟩ (exAll_of y.ex ⟨rfl, rfl, rfl, rfl, trivial⟩ rfl)
  have o : FnOk P w K mg base (L2.CX P w) 7 (He.fAd K d_law_refused_2.at_) fd ["_law_machine", "_law_sketch_here", "_law_deed_here"] (spD (gx P w K mg base) ⟨"_law_refused", [], runF T_law_refused_2 3 4 [] b_law_refused_2⟩) := def_ok (G := gx P w K mg base) F sc_law_refused_2 rfl rfl (blt_of X N c) (.inl ⟨rfl, rfl⟩) fun ex W X hX => okB_ok b_law_refused_2 hX T (XEOk.cold rfl) (defBody st_law_refused_2) k_law_refused_2
  rw [← fe_law_refused_2] at o
  exact FnIs.of (G := gx P w K mg base) F (F.bindsN (ps := ["_law_machine", "_law_sketch_here", "_law_deed_here"]) (fun _ _ _ _ _ _ us hl => match us, hl with | [_, _, _], _ => rfl)) o
theorem sc_law_disks : FnScope c_law_disks.N ["_law_sketch_here"] (defScope st_law_disks) := ⟨rfl, rfl, rfl, by decide +kernel, rfl, by decide +kernel, by decide +kernel⟩
theorem ok_law_disks (X : K.In h) (N : h.Ns mainGlobals mg) (y : Extra subT exN prN K) (c : He.SaysD (bnames.map He.Fa.free ++ fa) dn K) : FnIs (gx P w K mg base) 1 (He.fAd K d_law_disks.at_) ["_law_sketch_here"] fd_law_disks := by
  obtain ⟨fd, F⟩ := c.def_ 12 (d := d_law_disks) rfl
  have T : TOk (gx P w K mg base) c_law_disks 0 T_law_disks := TOk.by trivial trivial trivial trivial trivial trivial (exAll_of y.ex ⟨rfl, rfl, rfl, rfl, trivial⟩ rfl)
  have o : FnOk P w K mg base (L2.CX P w) 1 (He.fAd K d_law_disks.at_) fd ["_law_sketch_here"] (spD (gx P w K mg base) ⟨"_law_disks", [], runF T_law_disks 1 6 [] b_law_disks⟩) := def_ok (G := gx P w K mg base) F sc_law_disks rfl rfl (blt_of X N c) (.inl ⟨rfl, rfl⟩) fun ex W X hX => okB_ok b_law_disks hX T (XEOk.cold rfl) (defBody st_law_disks) k_law_disks
  rw [← fe_law_disks] at o
  exact FnIs.of (G := gx P w K mg base) F (F.bindsN (ps := ["_law_sketch_here"]) (fun _ _ _ _ _ _ us hl => match us, hl with | [_], _ => rfl)) o
theorem sc_law_can : FnScope c_law_can.N ["_law_deeds", "_law_disk", "_law_deed_here"] (defScope st_law_can) := ⟨rfl, rfl, rfl, by decide +kernel, rfl, by decide +kernel, by decide +kernel⟩
theorem ok_law_can (X : K.In h) (N : h.Ns mainGlobals mg) (y : Extra subT exN prN K) (c : He.SaysD (bnames.map He.Fa.free ++ fa) dn K) : FnIs (gx P w K mg base) 1 (He.fAd K d_law_can.at_) ["_law_deeds", "_law_disk", "_law_deed_here"] fd_law_can := by
  obtain ⟨fd, F⟩ := c.def_ 13 (d := d_law_can) rfl
  have T : TOk (gx P w K mg base) c_law_can 0 T_law_can := TOk.by trivial trivial trivial trivial trivial trivial (exAll_of y.ex ⟨rfl, rfl, rfl, rfl, trivial⟩ rfl)
  have o : FnOk P w K mg base (L2.CX P w) 1 (He.fAd K d_law_can.at_) fd ["_law_deeds", "_law_disk", "_law_deed_here"] (spD (gx P w K mg base) ⟨"_law_can", [], runF T_law_can 3 5 [] b_law_can⟩) := def_ok (G := gx P w K mg base) F sc_law_can rfl rfl (blt_of X N c) (.inl ⟨rfl, rfl⟩) fun ex W X hX => okB_ok b_law_can hX T (XEOk.cold rfl) (defBody st_law_can) k_law_can
  rw [← fe_law_can] at o
  exact FnIs.of (G := gx P w K mg base) F (F.bindsN (ps := ["_law_deeds", "_law_disk", "_law_deed_here"]) (fun _ _ _ _ _ _ us hl => match us, hl with | [_, _, _], _ => rfl)) o
theorem sc_law_in : FnScope c_law_in.N ["_law_sketch_here", "_law_disk"] (defScope st_law_in) := ⟨rfl, rfl, rfl, by decide +kernel, rfl, by decide +kernel, by decide +kernel⟩
theorem ok_law_in (X : K.In h) (N : h.Ns mainGlobals mg) (y : Extra subT exN prN K) (c : He.SaysD (bnames.map He.Fa.free ++ fa) dn K) : FnIs (gx P w K mg base) 1 (He.fAd K d_law_in.at_) ["_law_sketch_here", "_law_disk"] fd_law_in := by
  obtain ⟨fd, F⟩ := c.def_ 14 (d := d_law_in) rfl
  have T : TOk (gx P w K mg base) c_law_in 0 T_law_in := TOk.by trivial trivial trivial trivial trivial trivial (exAll_of y.ex ⟨rfl, rfl, rfl, rfl, trivial⟩ rfl)
  have o : FnOk P w K mg base (L2.CX P w) 1 (He.fAd K d_law_in.at_) fd ["_law_sketch_here", "_law_disk"] (spD (gx P w K mg base) ⟨"_law_in", [], runF T_law_in 2 4 [] b_law_in⟩) := def_ok (G := gx P w K mg base) F sc_law_in rfl rfl (blt_of X N c) (.inl ⟨rfl, rfl⟩) fun ex W X hX => okB_ok b_law_in hX T (XEOk.cold rfl) (defBody st_law_in) k_law_in
  rw [← fe_law_in] at o
  exact FnIs.of (G := gx P w K mg base) F (F.bindsN (ps := ["_law_sketch_here", "_law_disk"]) (fun _ _ _ _ _ _ us hl => match us, hl with | [_, _], _ => rfl)) o
theorem sc_law_after : FnScope c_law_after.N ["_law_deeds", "_law_disk", "_law_deed_here"] (defScope st_law_after) := ⟨rfl, rfl, rfl, by decide +kernel, rfl, by decide +kernel, by decide +kernel⟩
theorem ok_law_after (X : K.In h) (N : h.Ns mainGlobals mg) (y : Extra subT exN prN K) (c : He.SaysD (bnames.map He.Fa.free ++ fa) dn K) : FnIs (gx P w K mg base) 1 (He.fAd K d_law_after.at_) ["_law_deeds", "_law_disk", "_law_deed_here"] fd_law_after := by
  obtain ⟨fd, F⟩ := c.def_ 15 (d := d_law_after) rfl
  have T : TOk (gx P w K mg base) c_law_after 0 T_law_after := TOk.by trivial trivial trivial trivial trivial trivial (exAll_of y.ex ⟨rfl, rfl, rfl, rfl, trivial⟩ rfl)
  have o : FnOk P w K mg base (L2.CX P w) 1 (He.fAd K d_law_after.at_) fd ["_law_deeds", "_law_disk", "_law_deed_here"] (spD (gx P w K mg base) ⟨"_law_after", [], runF T_law_after 3 6 [] b_law_after⟩) := def_ok (G := gx P w K mg base) F sc_law_after rfl rfl (blt_of X N c) (.inl ⟨rfl, rfl⟩) fun ex W X hX => okB_ok b_law_after hX T (XEOk.cold rfl) (defBody st_law_after) k_law_after
  rw [← fe_law_after] at o
  exact FnIs.of (G := gx P w K mg base) F (F.bindsN (ps := ["_law_deeds", "_law_disk", "_law_deed_here"]) (fun _ _ _ _ _ _ us hl => match us, hl with | [_, _, _], _ => rfl)) o
theorem sc_is_name : FnScope c_is_name.N ["text"] (defScope st_is_name) := ⟨rfl, rfl, rfl, by decide +kernel, rfl, by decide +kernel, by decide +kernel⟩
theorem ok_is_name (X : K.In h) (N : h.Ns mainGlobals mg) (y : Extra subT exN prN K) (c : He.SaysD (bnames.map He.Fa.free ++ fa) dn K) : FnIs (gx P w K mg base) 1 (He.fAd K d_is_name.at_) ["text"] fd_is_name := by
  obtain ⟨fd, F⟩ := c.def_ 16 (d := d_is_name) rfl
  have T : TOk (gx P w K mg base) c_is_name 0 T_is_name := TOk.by trivial ⟨gl_int (He.int_ok X N (fact_of c 29 (f := .int "LONGEST_NAME" 12) rfl)), gl_str (He.str_ok X N (fact_of c 30 (f := .str "LOWER" "abcdefghijklmnopqrstuvwxyz") rfl)), gl_str (He.str_ok X N (fact_of c 31 (f := .str "DIGITS" "0123456789") rfl)), trivial⟩ trivial trivial trivial trivial (exAll_of y.ex ⟨rfl, rfl, rfl, rfl, trivial⟩ rfl)
  have o : FnOk P w K mg base (L2.CX P w) 1 (He.fAd K d_is_name.at_) fd ["text"] (spD (gx P w K mg base) ⟨"is_name", [], runF T_is_name 1 2 [] b_is_name⟩) := def_ok (G := gx P w K mg base) F sc_is_name rfl rfl (blt_of X N c) (.inl ⟨rfl, rfl⟩) fun ex W X hX => okB_ok b_is_name hX T (XEOk.cold rfl) (defBody st_is_name) k_is_name
  rw [← fe_is_name] at o
  exact FnIs.of (G := gx P w K mg base) F (F.bindsN (ps := ["text"]) (fun _ _ _ _ _ _ us hl => match us, hl with | [_], _ => rfl)) o
theorem sc_check_names : FnScope c_check_names.N ["names"] (defScope st_check_names) := ⟨rfl, rfl, rfl, by decide +kernel, rfl, by decide +kernel, by decide +kernel⟩
theorem ok_check_names (X : K.In h) (N : h.Ns mainGlobals mg) (y : Extra subT exN prN K) (c : He.SaysD (bnames.map He.Fa.free ++ fa) dn K) : FnIs (gx P w K mg base) 3 (He.fAd K d_check_names.at_) ["names"] fd_check_names := by
  obtain ⟨fd, F⟩ := c.def_ 17 (d := d_check_names) rfl
  have o_is_name := ok_is_name (P := P) (w := w) (base := base) X N y c
  have T : TOk (gx P w K mg base) c_check_names 2 T_check_names := TOk.by trivial trivial ⟨o_is_name.fn (He.glo_ok X N (fact_of c 18 (f := .glo "is_name") rfl)) (by decide), trivial⟩ trivial ⟨exn_of (show 1 ∈ exN.map (·.1) by decide) (He.glo_ok X N (fact_of c 38 (f := .glo "InvalidMachine") rfl)) (He.exc_ok (fact_of c 39 (f := .exc "InvalidMachine") rfl)), trivial⟩ trivial (exAll_of y.ex ⟨rfl, rfl, rfl, rfl, trivial⟩ rfl)
  have o : FnOk P w K mg base (L2.CX P w) 3 (He.fAd K d_check_names.at_) fd ["names"] (spD (gx P w K mg base) ⟨"_check_names", [], runF T_check_names 1 2 [] b_check_names⟩) := def_ok (G := gx P w K mg base) F sc_check_names rfl rfl (blt_of X N c) (.inl ⟨rfl, rfl⟩) fun ex W X hX => okB_ok b_check_names hX T (XEOk.cold rfl) (defBody st_check_names) k_check_names
  rw [← fe_check_names] at o
  exact FnIs.of (G := gx P w K mg base) F (F.bindsN (ps := ["names"]) (fun _ _ _ _ _ _ us hl => match us, hl with | [_], _ => rfl)) o
theorem sc_check_order : FnScope c_check_order.N ["pairs", "count"] (defScope st_check_order) := ⟨rfl, rfl, rfl, by decide +kernel, rfl, by decide +kernel, by decide +kernel⟩
theorem ok_check_order (X : K.In h) (N : h.Ns mainGlobals mg) (y : Extra subT exN prN K) (c : He.SaysD (bnames.map He.Fa.free ++ fa) dn K) : FnIs (gx P w K mg base) 1 (He.fAd K d_check_order.at_) ["pairs", "count"] fd_check_order := by
  obtain ⟨fd, F⟩ := c.def_ 18 (d := d_check_order) rfl
  have T : TOk (gx P w K mg base) c_check_order 0 T_check_order := TOk.by trivial trivial trivial trivial ⟨exn_of (show 1 ∈ exN.map (·.1) by decide) (He.glo_ok X N (fact_of c 38 (f := .glo "InvalidMachine") rfl)) (He.exc_ok (fact_of c 39 (f := .exc "InvalidMachine") rfl)), trivial⟩ trivial (exAll_of y.ex ⟨rfl, rfl, rfl, rfl, trivial⟩ rfl)
  have o : FnOk P w K mg base (L2.CX P w) 1 (He.fAd K d_check_order.at_) fd ["pairs", "count"] (spD (gx P w K mg base) ⟨"_check_order", [], runF T_check_order 2 5 [] b_check_order⟩) := def_ok (G := gx P w K mg base) F sc_check_order rfl rfl (blt_of X N c) (.inl ⟨rfl, rfl⟩) fun ex W X hX => okB_ok b_check_order hX T (XEOk.cold rfl) (defBody st_check_order) k_check_order
  rw [← fe_check_order] at o
  exact FnIs.of (G := gx P w K mg base) F (F.bindsN (ps := ["pairs", "count"]) (fun _ _ _ _ _ _ us hl => match us, hl with | [_, _], _ => rfl)) o
theorem sc_Machine_check_deed : FnScope c_Machine_check_deed.N ["self", "sizes", "guard", "changes"] (defScope st_Machine_check_deed) := ⟨rfl, rfl, rfl, by decide +kernel, rfl, by decide +kernel, by decide +kernel⟩
theorem ok_Machine_check_deed (X : K.In h) (N : h.Ns mainGlobals mg) (y : Extra subT exN prN K) (c : He.SaysD (bnames.map He.Fa.free ++ fa) dn K) : FnIs (gx P w K mg base) 3 (He.fAd K d_Machine_check_deed.at_) ["self", "sizes", "guard", "changes"] fd_Machine_check_deed := by
  obtain ⟨fd, F⟩ := c.def_ 19 (d := d_Machine_check_deed) rfl
  have o_is_mask := ok_is_mask (P := P) (w := w) (base := base) X N y c
  have T : TOk (gx P w K mg base) c_Machine_check_deed 2 T_Machine_check_deed := TOk.by trivial trivial ⟨o_is_mask.fn (He.glo_ok X N (fact_of c 6 (f := .glo "is_mask") rfl)) (by decide), trivial⟩ trivial ⟨exn_of (show 1 ∈ exN.map (·.1) by decide) (He.glo_ok X N (fact_of c 38 (f := .glo "InvalidMachine") rfl)) (He.exc_ok (fact_of c 39 (f := .exc "InvalidMachine") rfl)), trivial⟩ trivial (exAll_of y.ex ⟨rfl, rfl, rfl, rfl, trivial⟩ rfl)
  have o : FnOk P w K mg base (L2.CX P w) 3 (He.fAd K d_Machine_check_deed.at_) fd ["self", "sizes", "guard", "changes"] (spD (gx P w K mg base) ⟨"_check_deed", [], runF T_Machine_check_deed 4 8 [] b_Machine_check_deed⟩) := def_ok (G := gx P w K mg base) F sc_Machine_check_deed rfl rfl (blt_of X N c) (.inl ⟨rfl, rfl⟩) fun ex W X hX => okB_ok b_Machine_check_deed hX T (XEOk.cold rfl) (defBody st_Machine_check_deed) k_Machine_check_deed
  rw [← fe_Machine_check_deed] at o
  exact FnIs.of (G := gx P w K mg base) F (F.bindsN (ps := ["self", "sizes", "guard", "changes"]) (fun _ _ _ _ _ _ us hl => match us, hl with | [_, _, _, _], _ => rfl)) o
theorem sc_Machine_init : FnScope c_Machine_init.N ["self", "cells", "deeds", "first"] (defScope st_Machine_init) := ⟨rfl, rfl, rfl, by decide +kernel, rfl, by decide +kernel, by decide +kernel⟩
theorem ok_Machine_init (X : K.In h) (N : h.Ns mainGlobals mg) (y : Extra subT exN prN K) (c : He.SaysD (bnames.map He.Fa.free ++ fa) dn K) : FnIs (gx P w K mg base) 5 (He.fAd K d_Machine_init.at_) ["self", "cells", "deeds", "first"] fd_Machine_init := by
  obtain ⟨fd, F⟩ := c.def_ 20 (d := d_Machine_init) rfl
  have o_check_names := ok_check_names (P := P) (w := w) (base := base) X N y c
  have o_check_order := ok_check_order (P := P) (w := w) (base := base) X N y c
  have o_Machine_check_deed := ok_Machine_check_deed (P := P) (w := w) (base := base) X N y c
  have o_is_mask := ok_is_mask (P := P) (w := w) (base := base) X N y c
  have T : TOk (gx P w K mg base) c_Machine_init 4 T_Machine_init := TOk.by ⟨⟨He.cls_ok (fact_of c 10 (f := .cls "Machine") rfl), He.noat_ok (fact_of c 27 (f := .noat "Machine" "cells") rfl)⟩, ⟨He.cls_ok (fact_of c 10 (f := .cls "Machine") rfl), He.noat_ok (fact_of c 28 (f := .noat "Machine" "deeds") rfl)⟩, ⟨He.cls_ok (fact_of c 10 (f := .cls "Machine") rfl), He.noat_ok (fact_of c 32 (f := .noat "Machine" "first") rfl)⟩, trivial⟩ ⟨gl_int (He.int_ok X N (fact_of c 33 (f := .int "MOST_CELLS" 24) rfl)), gl_int (He.int_ok X N (fact_of c 34 (f := .int "MOST_DEEDS" 400) rfl)), gl_int (He.int_ok X N (fact_of c 35 (f := .int "MOST_VALUES" 16) rfl)), trivial⟩ ⟨o_check_names.fn (He.glo_ok X N (fact_of c 19 (f := .glo "_check_names") rfl)) (by decide), o_check_order.fn (He.glo_ok X N (fact_of c 20 (f := .glo "_check_order") rfl)) (by decide), o_Machine_check_deed.meth (He.cls_ok (fact_of c 10 (f := .cls "Machine") rfl)) (He.meth_ok (fact_of c 21 (f := .meth "Machine" "_check_deed") rfl)) (by decide), o_is_mask.fn (He.glo_ok X N (fact_of c 6 (f := .glo "is_mask") rfl)) (by decide), trivial⟩ trivial ⟨exn_of (show 1 ∈ exN.map (·.1) by decide) (He.glo_ok X N (fact_of c 38 (f := .glo "InvalidMachine") rfl)) (He.exc_ok (fact_of c 39 (f := .exc "InvalidMachine") rfl)), trivial⟩ trivial (exAll_of y.ex ⟨rfl, rfl, rfl, rfl, trivial⟩ rfl)
  have o : FnOk P w K mg base (L2.CX P w) 5 (He.fAd K d_Machine_init.at_) fd ["self", "cells", "deeds", "first"] (spD (gx P w K mg base) ⟨"__init__", [0], runF T_Machine_init 4 12 [0] b_Machine_init⟩) := def_ok (G := gx P w K mg base) F sc_Machine_init rfl rfl (blt_of X N c) (.inr ⟨0, rfl, rfl, by decide⟩) fun ex W X hX => okB_ok b_Machine_init hX T (XEOk.cold rfl) (defBody st_Machine_init) k_Machine_init
  rw [← fe_Machine_init] at o
  exact FnIs.of (G := gx P w K mg base) F (F.bindsN (ps := ["self", "cells", "deeds", "first"]) (fun _ _ _ _ _ _ us hl => match us, hl with | [_, _, _, _], _ => rfl)) o
theorem sc_law_k08 : FnScope c_law_k08.N ["_law_script"] (defScope st_law_k08) := ⟨rfl, rfl, rfl, by decide +kernel, rfl, by decide +kernel, by decide +kernel⟩
theorem ok_law_k08 (X : K.In h) (N : h.Ns mainGlobals mg) (y : Extra subT exN prN K) (c : He.SaysD (bnames.map He.Fa.free ++ fa) dn K) : FnIs (gx P w K mg base) 9 (He.fAd K d_law_k08.at_) ["_law_script"] fd_law_k08 := by
  obtain ⟨fd, F⟩ := c.def_ 21 (d := d_law_k08) rfl
  have o_law_parts := ok_law_parts (P := P) (w := w) (base := base) X N y c
  have o_law_deed := ok_law_deed (P := P) (w := w) (base := base) X N y c
  have o_law_cell := ok_law_cell (P := P) (w := w) (base := base) X N y c
  have o_law_sketch := ok_law_sketch (P := P) (w := w) (base := base) X N y c
  have o_law_refused_2 := ok_law_refused_2 (P := P) (w := w) (base := base) X N y c
  have o_law_disks := ok_law_disks (P := P) (w := w) (base := base) X N y c
  have o_law_can := ok_law_can (P := P) (w := w) (base := base) X N y c
  have o_law_in := ok_law_in (P := P) (w := w) (base := base) X N y c
  have o_law_after := ok_law_after (P := P) (w := w) (base := base) X N y c
  have o_before := ok_before (P := P) (w := w) (base := base) X N y c
  have o_Machine_init := ok_Machine_init (P := P) (w := w) (base := base) X N y c
  have T : TOk (gx P w K mg base) c_law_k08 8 T_law_k08 := TOk.by trivial trivial ⟨o_law_parts.fn (He.glo_ok X N (fact_of c 4 (f := .glo "_law_parts") rfl)) (by decide), o_law_deed.fn (He.glo_ok X N (fact_of c 3 (f := .glo "_law_deed") rfl)) (by decide), o_law_cell.fn (He.glo_ok X N (fact_of c 0 (f := .glo "_law_cell") rfl)) (by decide), o_law_sketch.fn (He.glo_ok X N (fact_of c 5 (f := .glo "_law_sketch") rfl)) (by decide), o_law_refused_2.fn (He.glo_ok X N (fact_of c 13 (f := .glo "_law_refused") rfl)) (by decide), o_law_disks.fn (He.glo_ok X N (fact_of c 14 (f := .glo "_law_disks") rfl)) (by decide), o_law_can.fn (He.glo_ok X N (fact_of c 15 (f := .glo "_law_can") rfl)) (by decide), o_law_in.fn (He.glo_ok X N (fact_of c 16 (f := .glo "_law_in") rfl)) (by decide), o_law_after.fn (He.glo_ok X N (fact_of c 17 (f := .glo "_law_after") rfl)) (by decide), o_before.fn (He.glo_ok X N (fact_of c 12 (f := .glo "before") rfl)) (by decide), trivial⟩ ⟨o_Machine_init.make (He.glo_ok X N (fact_of c 9 (f := .glo "Machine") rfl)) (He.mkr_ok (fact_of c 22 (f := .mkr "Machine") rfl)) (by decide), trivial⟩ trivial trivial (exAll_of y.ex ⟨rfl, rfl, rfl, rfl, trivial⟩ rfl)
  have o : FnOk P w K mg base (L2.CX P w) 9 (He.fAd K d_law_k08.at_) fd ["_law_script"] (spD (gx P w K mg base) ⟨"law", [], runF T_law_k08 1 14 [] b_law_k08⟩) := def_ok (G := gx P w K mg base) F sc_law_k08 rfl rfl (blt_of X N c) (.inl ⟨rfl, rfl⟩) fun ex W X hX => okB_ok b_law_k08 hX T (XEOk.cold rfl) (defBody st_law_k08) k_law_k08
  rw [← fe_law_k08] at o
  exact FnIs.of (G := gx P w K mg base) F (F.bindsN (ps := ["_law_script"]) (fun _ _ _ _ _ _ us hl => match us, hl with | [_], _ => rfl)) o
end
def names : List Str := (["WreckError", "InvalidMachine", "InvalidSketch", "NoSuchDeed", "MOST_CELLS", "MOST_VALUES", "MOST_DEEDS", "LONGEST_NAME", "LOWER", "DIGITS", "is_name", "_check_names", "is_mask", "_check_order", "Machine", "check_sketch", "check_deed", "sketch_before", "before", "_law_cell", "_law_mix", "_law_row", "_law_is_int", "_law_mask", "_law_deed"] : List Str) ++ (["_law_parts", "_law_sketch", "_law_piece", "_law_in", "_law_has", "_law_disks", "_law_can", "_law_after", "_law_refused"] : List Str)
abbrev RR : PySem.W.OpenRow := PySem.W.OpenLaw.row PySem.Challenge.rw_raisedwreck_k08_going_back
abbrev hk : PySem.W.Hook := hookL 5 (bnames.map He.Fa.free ++ fa) dn subT exN prN
def ob (s : PySem.W.SharedT) : (Bool × List He.FnW) × He.AlD := obL 5 (bnames.map He.Fa.free ++ fa) dn subT exN prN (HandSHeadRun.getT s)
theorem ob_eq (s : PySem.W.SharedT) : ob s = hk.obs s.abs := obL_eq (HandSHeadRun.getT_eq s)
set_option maxHeartbeats 0 in
theorem run (w : World) : HandSHeadRun.RunEq RR (PySem.W.view RR.prog [38]) hk ob 6000 names w := by
  intro os
  kernel_rfl
theorem facts {P : Program} {w : World} {K : PySem.W.Frag} {h : Heap} {mg : Str → Option Value} {f : Addr} (X : K.In h) (N : h.Ns mainGlobals mg) (hfa : mg ("law" : Str) = some (.ref f)) (y : Extra subT exN prN K) (hF : ∀ ns : List Int, ns.length ≤ 63 → ∃ ms, fd_law_k08.F [.lst (intsD ns)] = .ok (.bl true) ms) (c : He.SaysD (bnames.map He.Fa.free ++ fa) dn K) :
    ∃ fd : FuncData, (∀ (s : Shared) (v : Value), BindsTo s fd ⟨[v], []⟩ [("_law_script", v)]) ∧ ∀ base : Heap, K.In base → base.Ns mainGlobals mg → FnOk P w K mg base CX0 9 f fd ["_law_script"] (spLaw K) := by
  obtain ⟨fd, F⟩ := c.def_ 21 (d := d_law_k08) rfl
  have e := hfa.symm.trans (He.glo_ok X N (fact_of c 23 (f := .glo "law") rfl))
  cases e
  have b := FunD.bindsA (ps := ["_law_script"]) F fun _ _ _ _ _ _ us hl => match us, hl with | [_], _ => rfl
  refine ⟨fd, fun s v => b s [v] rfl, fun base _ _ => law_end (G := gx P w K mg base) (f := fd_law_k08) rfl y.ls hF ?_⟩
  exact (ok_law_k08 (P := P) (w := w) (base := base) X N y c).at_ F
theorem math (ns : List Int) (h : ns.length ≤ 63) : ∃ ms, fd_law_k08.F [.lst (intsD ns)] = .ok (.bl true) ms := ⟨[], by unfold fd_law_k08 intsD; exact e_law_k08 ns⟩
end K08
open PySem PySem.W PySem.Calls PyProof.Rows
set_option maxRecDepth 100000 in
set_option maxHeartbeats 0 in
theorem PySem.Challenge.cw_raisedwreck_k08_going_back_holds : PySem.Challenge.rw_raisedwreck_k08_going_back.Holds := by
  w_on; o_law
  refine HandSHeadRun.head_any (r := OpenLaw.row PySem.Challenge.rw_raisedwreck_k08_going_back) (q := view (OpenLaw.row PySem.Challenge.rw_raisedwreck_k08_going_back).prog [38]) (H := K08.hk) (ob := K08.ob) (M := 6000) (loose := K08.names) (d := HandSHeadRun.topDef (OpenLaw.row PySem.Challenge.rw_raisedwreck_k08_going_back).prog 38) (kwd := []) K08.ob_eq
    (by kernel_rfl) (fun s => by kernel_rfl) K08.run (by kernel_rfl) (by kernel_rfl) (by kernel_rfl) (by rfl) (by first | assumption | decide +kernel) (by decide +kernel) ⟨rfl, rfl, rfl, rfl, rfl, by decide +kernel⟩ ?hw ?hc
  case hw => w_witness2
  case hc =>
    refine L2.walk_ofE (l := PySem.Challenge.rw_raisedwreck_k08_going_back) (n := 63) (k := 9) (x := "_law_script") (CX := L2.CX0) rfl (by decide) (by kernel_rfl) ⟨rfl, by decide, by decide⟩ ?F (fun _ _ _ _ z => z)
    intro w mg fa h Y G hmg0
    obtain ⟨K, KX, y, c⟩ := Y
    have hmg : mg ("law" : PySem.Str) = some (.ref fa) := by
      have e : (HandSHeadRun.topDef (OpenLaw.row PySem.Challenge.rw_raisedwreck_k08_going_back).prog 38).name = ("law" : PySem.Str) := by kernel_rfl
      rw [← e]
      exact hmg0
    obtain ⟨fd, hb, hF⟩ := K08.facts (P := (PySem.Challenge.rw_raisedwreck_k08_going_back).prog) (w := w) KX G hmg y K08.math c
    exact ⟨K, fd, Pd.spLaw K, KX, hb, fun H a ns hl _ hS => ⟨a, ns, rfl, hS, hl, fun _ => rfl⟩, hF⟩
