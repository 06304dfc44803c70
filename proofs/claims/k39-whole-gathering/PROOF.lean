import PyProof.Rows.All
import Wide.All
import OpenK.AllK
import Wide.FinOn
import HandS.ForMost
import HandS.Evl
import KE.GoesEnum
import HandS.Deep
import KE.LtData
import HandS.More
import HandS.Set
import HandS.SetFor
import PyProof.CollectStr
import HandS.Style
import PyProof.Rows.StrRev
import HandS.Replace
import HandS.ReplaceDef
import PyProof.ToksMono
import HandS.Steps
import HandS.Walk
import HandS.Words
import HandS.IsInst
import HandS.Conv
import HandS.TupAny
import HandS.TupLe
import HandS.AnyAll
import PySem.Challenge.RW_oncewords_k39_whole_gathering_and_stayin
import HandS.Wide
import HandS.Text
import KE.KStateDown
import HandS.WordsExc
import HandS.Defaults
import HandS.Head0
import HandS.Head1
import HandS.Head2
import HandS.HeadEnd
import HandS.HeadHook1
import HandS.HeadHook2
set_option Elab.async false
set_option linter.all false
set_option maxRecDepth 100000
namespace R1
open PySem
set_option maxHeartbeats 1000000 in
theorem meets_new1 {v : Value} {o : Obj} {H : Heap → Prop} (B : Begins v o H) :
    Meets (Builtin.«enumerate.__new__» ⟨[.type "enumerate", v], []⟩) (fun _ R s => H s.heap ∧
      R (.ok (.ret (.ref (s.heap.push o).objs.size))) { s with heap := (s.heap.push o).push { cls := .type "enumerate", data := .fields #[.none, .bool false, .ref s.heap.objs.size, rawInt 0, .none, .none] } }) :=
  .of_wp fun prog w A R s h => by
    obtain ⟨hp, g, d, tk, os⟩ := s; obtain ⟨h1, h⟩ := h
    have hsub := sub_enumerate
    have q1 : ∀ {A' : Around} {E : Value → Shared → Prop} {Q : Value → Shared → Prop}, Q (.ref hp.objs.size) ⟨hp.push o, g, d, tk, os⟩ → wpAny (model prog w) A' (pyIter v) Q E ⟨hp, g, d, tk, os⟩ :=
      fun q => B.iter prog w _ _ ⟨hp, g, d, tk, os⟩ _ h1 q
    wp_walk using q1
    refine wpAny_stack_any fun st => wpAny_pure ?_
    split
    · rename_i c _ _ _ _ _
      cases (c == Value.type "enumerate")
      · wp_walk using q1
        exact ⟨_, rfl, h⟩
      · wp_walk using q1
        exact ⟨_, rfl, h⟩
    · wp_walk using q1
      exact ⟨_, rfl, h⟩
section
variable {prog : Program} {w : World} {A : Around} {E : Value → Shared → Prop} {s : Shared}
theorem enum_begins1 {v : Value} {o : Obj} {H : Heap → Prop} {Q : Value → Shared → Prop} (B : Begins v o H) (h1 : H s.heap)
    (h : ∀ h', IsEnum h' (s.heap.objs.size + 1) s.heap.objs.size 0 .none → h'.get? s.heap.objs.size = some o → h'.objs.size = s.heap.objs.size + 2 →
      (∀ b o, s.heap.get? b = some o → h'.get? b = some o) → Q (.ref (s.heap.objs.size + 1)) { s with heap := h' }) :
    wpAny (model prog w) A (call (.type "enumerate") [v]) Q E s := by
  refine callType_new F.called_enumerate (by decide) (F.typeCall_enumerate_1 _) (F.newCall_enumerate_1 _) (fun obj => F.args_object_init_2 obj _) F.entry_enumerate_new
    (meets_new1 B) ⟨h1, ?_⟩
  have hz : (s.heap.push o).objs.size = s.heap.objs.size + 1 := Heap.size_push ..
  show _ ∧ _
  rw [hz]
  have he : IsEnum ((s.heap.push o).push { cls := .type "enumerate", data := .fields #[.none, .bool false, .ref s.heap.objs.size, rawInt 0, .none, .none] }) (s.heap.objs.size + 1) s.heap.objs.size 0 .none := by
    have := Heap.get?_push_size (s.heap.push o) (o := { cls := .type "enumerate", data := .fields #[.none, .bool false, .ref s.heap.objs.size, rawInt 0, .none, .none] }) rfl
    rw [hz] at this; exact this
  refine ⟨⟨_, he, rfl⟩, h _ he (Heap.get?_push_of_some _ (Heap.get?_push_size _ B.free)) (by rw [Heap.size_push, hz]) fun b o x => Heap.get?_push_of_some _ (Heap.get?_push_of_some _ x)⟩
end
end R1
namespace L2
open PySem PySem.Spec PyProof.Rows
/-- the tuple at a, each item in a new pair -/
def IteT (K : PySem.W.Frag) (a : Addr) : It :=
  ⟨fun i H => ∃ (xs : List V) (x : V), SqT K H a xs ∧ xs[i]? = some x, fun i H v H' => ∃ T x, v = .ref T ∧ H T = none ∧ H' = upd H T (.tup [.int (i : Nat), x]) ∧ ∀ xs, SqT K H a xs → xs[i]? = some x, fun i H => ∃ xs : List V, SqT K H a xs ∧ xs.length = i⟩
theorem turn_enumT {P : Program} {w : World} {K : PySem.W.Frag} {elts : List Expr} {kk : Nat} {tpos : Pos} (a e it : Addr) (hat : a ≠ it) :
    Turn P w K (.Tuple elts kk tpos) (IteT K a) [e, it] e (fun i h => (∃ old, IsEnum h e it ((i : Nat) : Int) old) ∧ h.IsTupleIter it a i ∧ e ≠ it) where
  mem := by simp
  obj := fun i h st b hb => by
    obtain ⟨⟨old, he⟩, ⟨o, ho, hc, hd⟩, _⟩ := st
    have e' : b = e ∨ b = it := by simpa using hb
    rcases e' with z | z
    · rw [z]; exact ⟨_, he, fun v q => nomatch q⟩
    · rw [z]; exact ⟨o, ho, fun v q => by rw [hd] at q; cases q⟩
  keep := fun i h h' st k => let ⟨⟨old, he⟩, hi, hne⟩ := st; ⟨⟨old, k e (by simp) _ he⟩, hi.at fun o q => k it (by simp) o q, hne⟩
  item := by
    intro X hP hw hK hc i pins s σ H E I hf st hg
    subst hP hw hK
    obtain ⟨⟨old, he⟩, hit, hne⟩ := st
    obtain ⟨xs, x, hq, hx⟩ := hg
    obtain ⟨its, rv, p, hz⟩ := I.tuple hq
    obtain ⟨u, hu, ru⟩ := rv.get hx
    have hel : e < s.heap.objs.size := Heap.lt_size he
    have hil : it < s.heap.objs.size := by obtain ⟨_, q, _⟩ := hit; exact Heap.lt_size q
    have hlen : i < its.toArray.size := by
      have := (List.getElem?_eq_some_iff.mp hu).1
      simpa using this
    have Dr := Draws.tuple (prog := X.prog) (w := X.w) (A := X.A.in1) (I.ok.hd hc) it a hat its.toArray
    have pt : s.heap.IsTuple a its.toArray := p
    refine wpAny_pyNext_enum_itemC Dr he ⟨hit, pt⟩ hlen hne ?_ fun y h' tk hP ho hst hT hsz hk => ?_
    · intro hm
      have : e = it ∨ e = a := by simpa using hm
      rcases this with z | z
      · exact hne z
      · subst z
        obtain ⟨o2, q1, q2, _⟩ := pt
        rw [he] at q1
        cases q1
        injection q2 with q3
        exact absurd q3 (by decide)
    · have hy : y = u := by
        have e1 : its.toArray[i]? = some u := by simpa using hu
        exact Option.some.inj ((show its.toArray[i]? = some y from hP).symm.trans e1)
      subst hy
      refine ⟨_, rfl, wpAny_letOwnedTupleGo_enum (s := { s with heap := h', toks := tk + 1 }) ho fun h'' he' sb => ?_⟩
      have hT2 : h''.get? s.heap.objs.size = some { cls := .type "tuple", data := .seq #[.int i tk, y] } := (sb.2 _ (Nat.ne_of_gt hel)).trans hT
      have new : ObjOk X.prog X.w (upd H s.heap.objs.size (.tup [.int (i : Nat), x])) h'' s.heap.objs.size (.tup [.int (i : Nat), x]) :=
        ⟨by show 2 ≤ sizeLine; decide, [.int i tk, y], .cons ⟨_, rfl⟩ (.cons ru .nil), ⟨_, hT2, rfl, _, rfl⟩⟩
      have I1 : Inv X pins σ (upd H s.heap.objs.size (.tup [.int (i : Nat), x])) { s with heap := h'', toks := tk + 1 } :=
        I.turnedNew (ch := [e, it]) (fun b ob hb q => (sb.2 b (fun z => hb (by simp [z]))).trans (hk b ob (fun z => hb (by simp [z])) (fun z => hb (by simp [z])) q)) hf (Nat.le_refl _) new
      refine ⟨.ref s.heap.objs.size, _, I1, rfl, ⟨_, x, rfl, I.hok.fresh (Nat.le_refl _), rfl, fun ys hy => by rw [I.tuple_inj hy hq]; exact hx⟩, ⟨⟨y, ?_⟩, hst.1.at fun o q => (sb.2 it (Ne.symm hne)).trans q, hne⟩, fun b hb => ?_⟩
      · have e1 : ((i + 1 : Nat) : Int) = (i : Int) + 1 := by omega
        rw [e1]; exact he'
      · have hb' : b < s.heap.objs.size := by
          have e' : b = e ∨ b = it := by simpa using hb
          rcases e' with z | z
          · rw [z]; exact hel
          · rw [z]; exact hil
        rw [upd_ne (Nat.ne_of_lt hb')]
        exact (hf b hb).1
  done := by
    intro X hP hw hK hc i pins s σ H E I hf st hg
    subst hP hw hK
    obtain ⟨⟨old, he⟩, hit, hne⟩ := st
    obtain ⟨xs, hq, hx⟩ := hg
    obtain ⟨its, rv, p, hz⟩ := I.tuple hq
    obtain ⟨f0, f1, f2, f3, f4, f5⟩ := hf it (by simp)
    have hl := rv.length
    have pt : s.heap.IsTuple a its.toArray := p
    have Dr := Draws.tuple (prog := X.prog) (w := X.w) (A := X.A.in1) (I.ok.hd hc) it a hat its.toArray
    have hil : its.toArray.size = i := by simp; omega
    subst hil
    exact wpAny_pyNext_enum_endD Dr he ⟨hit, pt⟩ fun h' eb => ⟨rfl, I.turned (t' := s.toks) (fun b o hb q => eb b o hb q) f0 f1 f3 f4 f5⟩
  self := fun A i s Q E st h => let ⟨⟨_, he⟩, _⟩ := st; wpAny_pyIter_enum he h
def iEnumT (K : PySem.W.Frag) (ta : TA) : TI := fun σ H R => ta σ H fun vs H1 => ∃ a xs, vs = [.ref a] ∧ SqT K H1 a xs ∧ R (IteT K a) H1
theorem pi_enumT {X : Cx} {e : Expr} {ta : TA} {p pos tpos : Pos} {elts : List Expr} {kk : Nat} (hg : Gl X "enumerate") (hm : X.mg "enumerate" = none) (ha : PA X [e] ta) (hs : starEach [e] X.env = [(false, eval e X.env)] := by rfl) :
    PI X (.Tuple elts kk tpos) (.Call (.Name "enumerate" p) [e] [] pos) (iEnumT X.K ta) := by
  refine ⟨fun pins s σ H R I h => ?_⟩
  refine Call_ (ld_blt I hg hm boot_enumerate (PyProof.Rows.callWith_type1 (thn (ha.run pos pins s σ H _ I h) fun us s1 ⟨vs, H1, I1, r1, q1⟩ => ?_) hs rfl))
  obtain ⟨a, xs, ex, hq, q⟩ := q1
  subst ex
  cases r1 with
  | cons r rr =>
    cases rr
    cases r
    obtain ⟨its, rv, p', hz⟩ := I1.tuple hq
    have pt : s1.heap.IsTuple a its.toArray := p'
    refine R1.enum_begins1 (begins_tuple a its.toArray) pt fun h' he hit hsz hk => wpAny_pyIter_enum he ?_
    have I2 : Inv X pins σ H1 { s1 with heap := h' } := I1.kept (t' := s1.toks) hk
    have hal : a ≠ s1.heap.objs.size := by
      obtain ⟨o2, q1, _⟩ := pt
      exact Nat.ne_of_lt (Heap.lt_size q1)
    refine ⟨s1.heap.objs.size + 1, [s1.heap.objs.size + 1, s1.heap.objs.size], _, _, H1, rfl, I2, turn_enumT a (s1.heap.objs.size + 1) s1.heap.objs.size hal, ⟨⟨.none, he⟩, ⟨_, hit, rfl, rfl⟩, Nat.succ_ne_self _⟩, fun b hb => ?_, q⟩
    have e' : b = s1.heap.objs.size + 1 ∨ b = s1.heap.objs.size := by simpa using hb
    have hle : s1.heap.objs.size ≤ b := by
      rcases e' with z | z
      · rw [z]; exact Nat.le_add_right _ _
      · rw [z]; exact Nat.le_refl _
    exact I1.fpOk hle (I1.hok.fresh hle)
end L2
set_option Elab.async false
set_option linter.all false
set_option maxRecDepth 100000
namespace R2
open PySem PySem.Spec PyProof.Rows L2
/-- order of texts -/
abbrev ltS (x y : Str) : Prop := x.cps.toList < y.cps.toList
abbrev stAt (xs : List Str) (i : Nat) : Str := xs.getD i Str.empty
/-- the place of the least from the left -/
abbrev bestS (xs : List Str) : Nat := argBest (fun i j => decide (ltS (stAt xs i) (stAt xs j))) (xs.length - 1)
theorem strs_get : ∀ {us : List Value} {xs : List Str}, StrsAre us xs → ∀ {i : Nat} {v : Value}, us[i]? = some v → ∃ t, v = .str (stAt xs i) t ∧ i < xs.length
  | _, _, .nil, _, _, h => by simp at h
  | _, _, .cons x t r, 0, v, h => by
    have e : Value.str x t = v := Option.some.inj (by simpa using h)
    exact ⟨t, e.symm, by simp⟩
  | _, _, .cons x t r, i + 1, v, h => by
    obtain ⟨t', e, hl⟩ := strs_get r (i := i) (v := v) (by simpa using h)
    exact ⟨t', e, by simpa using hl⟩
theorem strs_len : ∀ {us : List Value} {xs : List Str}, StrsAre us xs → us.length = xs.length
  | _, _, .nil => rfl
  | _, _, .cons _ _ r => by simp [strs_len r]
theorem argBest_le (bt : Nat → Nat → Bool) : ∀ k, argBest bt k ≤ k
  | 0 => Nat.le_refl _
  | k + 1 => by
    show (if bt (k + 1) (argBest bt k) = true then k + 1 else argBest bt k) ≤ k + 1
    have := argBest_le bt k
    split <;> omega
section
variable {prog : Program} {w : World} {A : Around} {E : Value → Shared → Prop} {s : Shared}
theorem cmp_lt {us : List Value} {xs : List Str} (h : StrsAre us xs) : CmpOf prog w A .Lt (fun i v => us.toArray[i]? = some v) (fun i j => decide (ltS (stAt xs i) (stAt xs j))) := by
  intro i j vi vj s Q E hi hj hQ
  obtain ⟨t, rfl, _⟩ := strs_get h (by simpa using hi)
  obtain ⟨t', rfl, _⟩ := strs_get h (by simpa using hj)
  exact lt_str hQ
theorem cmp_gt {us : List Value} {xs : List Str} (h : StrsAre us xs) : CmpOf prog w A .Gt (fun i v => us.toArray[i]? = some v) (fun i j => decide (ltS (stAt xs j) (stAt xs i))) := by
  intro i j vi vj s Q E hi hj hQ
  obtain ⟨t, rfl, _⟩ := strs_get h (by simpa using hi)
  obtain ⟨t', rfl, _⟩ := strs_get h (by simpa using hj)
  exact PySem.P.gt_str hQ
/-- min of a list of texts: its item at the best place -/
theorem min_strs {l : Addr} {us : List Value} {xs : List Str} {Q : Value → Shared → Prop} (hh : A.handled = none) (hl : s.heap.IsList l us.toArray) (hS : StrsAre us xs) (hne : 0 < xs.length)
    (h : ∀ v h' tk, us[bestS xs]? = some v → (∀ b o, s.heap.get? b = some o → h'.get? b = some o) → Q v { s with heap := h', toks := tk }) :
    wpAny (model prog w) A (call (.builtin "min") [.ref l]) Q E s := by
  have hlt : l < s.heap.objs.size := by obtain ⟨_, e, _⟩ := hl; exact Heap.lt_size e
  have hz := strs_len hS
  refine call_min_walk (wpAny_pyIter_list hl ?_)
  refine ⟨_, _, _, _, _, _, _, rfl, Walks.list (A := A.in1) hh _ l (Nat.ne_of_lt hlt) us.toArray, ⟨⟨_, Heap.get?_push_size _ rfl, rfl, rfl⟩, hl.push _⟩, fun b hb => ?_, by simpa [hz] using hne, cmp_lt hS, fun v h' tk hP hk => ?_⟩
  · show b < (s.heap.push _).objs.size
    rw [Heap.size_push]
    rcases List.mem_cons.mp hb with rfl | hb
    · exact Nat.lt_succ_self _
    · rcases List.mem_cons.mp hb with rfl | hb
      · exact Nat.lt_succ_of_lt hlt
      · cases hb
  · refine h v h' tk ?_ fun b o e => ?_
    · have e1 : us.toArray.size - 1 = xs.length - 1 := by simp [hz]
      have q := hP
      rw [e1] at q
      have g : ∀ k, us.toArray[k]? = us[k]? := fun k => by rw [List.getElem?_toArray]
      rw [g] at q
      exact q
    · refine hk b o (fun hm => ?_) (Heap.get?_push_of_some _ e)
      have e1 := List.mem_singleton.mp hm
      exact absurd (e1 ▸ Heap.lt_size e) (Nat.lt_irrefl _)
theorem two_aux {b : Bool} {v x y : Value} (hP : [x, y].toArray[argBest (fun i j => if i = 1 ∧ j = 0 then b else false) 1]? = some v) : v = if b = true then y else x := by
  cases b with
  | true => exact (Option.some.inj hP).symm
  | false => exact (Option.some.inj hP).symm
theorem min_two {x y : Str} {t u : Tok} {Q : Value → Shared → Prop} (hh : A.handled = none)
    (h : ∀ h' tk, (∀ c o, s.heap.get? c = some o → h'.get? c = some o) → Q (if ltS y x then .str y u else .str x t) { s with heap := h', toks := tk }) :
    wpAny (model prog w) A (call (.builtin "min") [.str x t, .str y u]) Q E s := by
  have hS : StrsAre [.str x t, .str y u] [x, y] := .cons _ _ (.cons _ _ .nil)
  have hT : (s.heap.push { cls := .type "tuple", data := .seq #[.str x t, .str y u] }).IsTuple s.heap.objs.size [.str x t, .str y u].toArray := ⟨_, Heap.get?_push_size _ rfl, rfl, 0, rfl⟩
  refine call_min_two (wpAny_pyIter_tuple hT ?_)
  have hsz : (s.heap.push { cls := .type "tuple", data := .seq #[.str x t, .str y u] }).objs.size = s.heap.objs.size + 1 := Heap.size_push ..
  refine ⟨_, [_, s.heap.objs.size], [_], _, _, _, _, rfl, Walks.tuple (A := A.in1) hh _ s.heap.objs.size (by rw [hsz]; exact Nat.ne_of_lt (Nat.lt_succ_self _)) [.str x t, .str y u].toArray,
    ⟨⟨_, Heap.get?_push_size _ rfl, rfl, rfl⟩, hT.push _⟩, fun c hc => ?_, by simp, cmp_lt hS, fun v h' tk hP hk => ?_⟩
  · show c < ((s.heap.push _).push _).objs.size
    rw [Heap.size_push, hsz]
    rcases List.mem_cons.mp hc with rfl | hc
    · rw [hsz]; exact Nat.lt_succ_self _
    · rcases List.mem_cons.mp hc with rfl | hc
      · exact Nat.lt_succ_of_lt (Nat.lt_succ_self _)
      · cases hc
  · have hv : v = if ltS y x then Value.str y u else Value.str x t := by
      by_cases hba : ltS y x
      · have e : argBest (fun i j => decide (ltS (stAt [x, y] i) (stAt [x, y] j))) ([Value.str x t, .str y u].toArray.size - 1) = 1 := by
          show (if decide (ltS y x) = true then 1 else 0) = 1
          rw [if_pos (decide_eq_true hba)]
        rw [e] at hP
        rw [if_pos hba]
        exact (Option.some.inj hP).symm
      · have e : argBest (fun i j => decide (ltS (stAt [x, y] i) (stAt [x, y] j))) ([Value.str x t, .str y u].toArray.size - 1) = 0 := by
          show (if decide (ltS y x) = true then 1 else 0) = 0
          rw [if_neg (by simpa using hba)]
        rw [e] at hP
        rw [if_neg hba]
        exact (Option.some.inj hP).symm
    rw [hv]
    refine h h' tk fun c o e => hk c o (fun hm => ?_) (Heap.get?_push_of_some _ (Heap.get?_push_of_some _ e))
    have e1 := List.mem_singleton.mp hm
    have := Heap.lt_size e
    rw [e1, hsz] at this
    exact Nat.lt_irrefl _ (Nat.lt_of_succ_lt this)
theorem max_two {x y : Str} {t u : Tok} {Q : Value → Shared → Prop} (hh : A.handled = none)
    (h : ∀ h' tk, (∀ c o, s.heap.get? c = some o → h'.get? c = some o) → Q (if ltS x y then .str y u else .str x t) { s with heap := h', toks := tk }) :
    wpAny (model prog w) A (call (.builtin "max") [.str x t, .str y u]) Q E s := by
  have hS : StrsAre [.str x t, .str y u] [x, y] := .cons _ _ (.cons _ _ .nil)
  have hT : (s.heap.push { cls := .type "tuple", data := .seq #[.str x t, .str y u] }).IsTuple s.heap.objs.size [.str x t, .str y u].toArray := ⟨_, Heap.get?_push_size _ rfl, rfl, 0, rfl⟩
  refine call_max_two (wpAny_pyIter_tuple hT ?_)
  have hsz : (s.heap.push { cls := .type "tuple", data := .seq #[.str x t, .str y u] }).objs.size = s.heap.objs.size + 1 := Heap.size_push ..
  refine ⟨_, [_, s.heap.objs.size], [_], _, _, _, _, rfl, Walks.tuple (A := A.in1) hh _ s.heap.objs.size (by rw [hsz]; exact Nat.ne_of_lt (Nat.lt_succ_self _)) [.str x t, .str y u].toArray,
    ⟨⟨_, Heap.get?_push_size _ rfl, rfl, rfl⟩, hT.push _⟩, fun c hc => ?_, by simp, cmp_gt hS, fun v h' tk hP hk => ?_⟩
  · show c < ((s.heap.push _).push _).objs.size
    rw [Heap.size_push, hsz]
    rcases List.mem_cons.mp hc with rfl | hc
    · rw [hsz]; exact Nat.lt_succ_self _
    · rcases List.mem_cons.mp hc with rfl | hc
      · exact Nat.lt_succ_of_lt (Nat.lt_succ_self _)
      · cases hc
  · have hv : v = if ltS x y then Value.str y u else Value.str x t := by
      by_cases hba : ltS x y
      · have e : argBest (fun i j => decide (ltS (stAt [x, y] j) (stAt [x, y] i))) ([Value.str x t, .str y u].toArray.size - 1) = 1 := by
          show (if decide (ltS x y) = true then 1 else 0) = 1
          rw [if_pos (decide_eq_true hba)]
        rw [e] at hP
        rw [if_pos hba]
        exact (Option.some.inj hP).symm
      · have e : argBest (fun i j => decide (ltS (stAt [x, y] j) (stAt [x, y] i))) ([Value.str x t, .str y u].toArray.size - 1) = 0 := by
          show (if decide (ltS x y) = true then 1 else 0) = 0
          rw [if_neg (by simpa using hba)]
        rw [e] at hP
        rw [if_neg hba]
        exact (Option.some.inj hP).symm
    rw [hv]
    refine h h' tk fun c o e => hk c o (fun hm => ?_) (Heap.get?_push_of_some _ (Heap.get?_push_of_some _ e))
    have e1 := List.mem_singleton.mp hm
    have := Heap.lt_size e
    rw [e1, hsz] at this
    exact Nat.lt_irrefl _ (Nat.lt_of_succ_lt this)
end
section
variable {X : Cx}
theorem call_minSS (hc : X.calm = true) : CallR X (.builtin "min") (fun xs H Q => ∃ x y : Str, xs = [.str x, .str y] ∧ Q (.str (if ltS y x then y else x)) H) := by
  intro pins s σ H xs us Q I r h
  obtain ⟨x, y, rfl, q⟩ := h
  obtain ⟨u, w', rfl, ⟨t, rfl⟩, ⟨t', rfl⟩⟩ := vals2 r
  refine min_two (I.ok.hd hc) fun h' tk k => ⟨_, H, I.kept k, ?_, q⟩
  by_cases hj : ltS y x
  · rw [if_pos hj, if_pos hj]; exact ⟨_, rfl⟩
  · rw [if_neg hj, if_neg hj]; exact ⟨_, rfl⟩
theorem call_maxSS (hc : X.calm = true) : CallR X (.builtin "max") (fun xs H Q => ∃ x y : Str, xs = [.str x, .str y] ∧ Q (.str (if ltS x y then y else x)) H) := by
  intro pins s σ H xs us Q I r h
  obtain ⟨x, y, rfl, q⟩ := h
  obtain ⟨u, w', rfl, ⟨t, rfl⟩, ⟨t', rfl⟩⟩ := vals2 r
  refine max_two (I.ok.hd hc) fun h' tk k => ⟨_, H, I.kept k, ?_, q⟩
  by_cases hj : ltS x y
  · rw [if_pos hj, if_pos hj]; exact ⟨_, rfl⟩
  · rw [if_neg hj, if_neg hj]; exact ⟨_, rfl⟩
theorem cr_minS (hc : X.calm = true) : CallR X (.builtin "min") (fun vs H Q => ∃ (a : Addr) (xs : List Str), vs = [V.ref a] ∧ SqL X.K H a (xs.map V.str) ∧ 0 < xs.length ∧ Q (.str (stAt xs (bestS xs))) H) := by
  intro pins s σ H vs us Q I r h
  obtain ⟨a, xs, rfl, hs, hne, q⟩ := h
  obtain ⟨its, rv, hl, _⟩ := I.list hs
  rw [Vals.ref1 r]
  refine min_strs (I.ok.hd hc) hl.isList rv.strs hne fun v h' tk hv hk => ?_
  obtain ⟨t, rfl, _⟩ := strs_get rv.strs hv
  exact ⟨.str _, H, I.kept hk, ⟨_, rfl⟩, q⟩
/-- x in t, t a tuple of data -/
def rInTD (K : PySem.W.Frag) : R2 := fun x y H Q => ∃ d ds, Dp K H x d ∧ Dp K H y (.tuple ds) ∧ SeqAt.shaped d = true ∧ SeqAt.shaped (.tuple ds) = true ∧ Q (.bl (ds.any fun z => PyData.eqv z d)) H
theorem op_inTD (hu : X.A.units + 65 < cLine) : OpR X (compareOp .In) (rInTD X.K) := by
  intro pins s σ H x y v u Q I rx ry h
  obtain ⟨d, ds, hd, he, sd, se, q⟩ := h
  obtain ⟨as, r1⟩ := Dp.reads I d x v hd rx
  obtain ⟨bs, r2⟩ := Dp.reads I (.tuple ds) y u he ry
  exact SeqAt.in_tuple_reads r2 r1 (SeqAt.canLay_of_shaped se) (SeqAt.canLay_of_shaped sd) (room_in_shaped sd hu) ⟨.bl _, H, I, rfl, q⟩
/-- order of data -/
def rLtD (K : PySem.W.Frag) : R2 := fun x y H Q => ∃ d e, Dp K H x d ∧ Dp K H y e ∧ PySem.W.alike d e = true ∧ d ≠ .none ∧ min d.depth e.depth ≤ 60 ∧ Q (.bl (PySem.W.dataLt d e)) H
theorem op_ltD (hu : X.A.units + 64 < cLine) : OpR X (compareOp .Lt) (rLtD X.K) := by
  intro pins s σ H x y v u Q I rx ry h
  obtain ⟨d, e, hd, he, sd, se, hz, q⟩ := h
  obtain ⟨as, r1⟩ := Dp.reads I d x v hd rx
  obtain ⟨bs, r2⟩ := Dp.reads I e y u he ry
  exact PySem.W.rcLt_alike d e X.A s v u as bs r1 r2 sd se (by omega) _ _ _ _ ⟨.bl _, H, I, rfl, q⟩
end
theorem lt_is {i j : Int} {x y : Str} : PySem.W.dataLt (.tuple [.int i, .str x]) (.tuple [.int j, .str y]) = (decide (i < j) || (decide (i = j) && decide (ltS x y))) := by
  rw [PySem.W.dataLt_tuple]
  have al : ∀ x y : Str, PySem.W.alike (.str x) (.str y) = true := fun _ _ => rfl
  have ai : ∀ x y : Int, PySem.W.alike (.int x) (.int y) = true := fun _ _ => rfl
  by_cases e : i = j
  · subst e
    rw [PySem.W.dataLt_all_yes (ai _ _) (by simp [PyData.eqv])]
    by_cases ex : x = y
    · subst ex
      rw [PySem.W.dataLt_all_yes (al _ _) (by simp [PyData.eqv])]
      simp [ltS, List.lt_irrefl]
      rfl
    · rw [PySem.W.dataLt_all_no (al _ _) (by simp [PyData.eqv, ex]), PySem.W.dataLt_str]
      simp
  · rw [PySem.W.dataLt_all_no (ai _ _) (by simp [PyData.eqv, e]), PySem.W.dataLt_int]
    simp [e]
end R2
set_option Elab.async false
set_option linter.all false
set_option maxRecDepth 100000
/-! sets of texts, sorted of such and of texts -/
namespace R3
open PySem PySem.Spec PyProof.Rows L2
/-- the text of an entry -/
def keyT (e : Int × Value) : Str := match e.2 with | .str k _ => k | _ => Str.empty
def GoodT (w : World) (e : Int × Value) : Prop := ∃ k tk, e.2 = Value.str k tk ∧ e.1 = hashStr w k
/-- the different ones, as they come -/
def ddS (L : List Str) (x : Str) : List Str := if x ∈ L then L else L ++ [x]
def dd (xs : List Str) : List Str := xs.foldl ddS []
theorem dd_snoc (xs : List Str) (x : Str) : dd (xs ++ [x]) = ddS (dd xs) x := by
  unfold dd
  rw [List.foldl_append]
  rfl
theorem ddS_mem {L : List Str} {x y : Str} : y ∈ ddS L x ↔ y ∈ L ∨ y = x := by
  unfold ddS
  split
  · rename_i h
    exact ⟨.inl, fun q => q.elim id fun e => e ▸ h⟩
  · simp
theorem ddS_nd {L : List Str} {x : Str} (h : L.Nodup) : (ddS L x).Nodup := by
  unfold ddS
  split
  · exact h
  · rename_i hx
    rw [List.nodup_append]
    exact ⟨h, by simp, fun a ha b hb e => hx (by simp at hb; rw [← hb, ← e]; exact ha)⟩
theorem ddS_len {L : List Str} {x : Str} : (ddS L x).length ≤ L.length + 1 := by
  unfold ddS
  split
  · omega
  · simp
/-- the set at a has just the texts of L -/
def SetS (w : World) (h : Heap) (a : Addr) (L : List Str) : Prop :=
  ∃ o es ep t, h.get? a = some o ∧ o.ExactSet ∧ o.data = .set es ep t ∧ (∀ e ∈ es.toList, GoodT w e) ∧ (es.toList.map keyT).Perm L ∧ L.Nodup ∧
    es.size < scanBound ∧ t.fits es.size = true ∧ Ris t.place.toList ∧ (w.params.followText "set-order" = true ∨ t.led = true)
section
variable {P : Program} {w : World} {h h' : Heap} {a : Addr} {L : List Str}
theorem SetS.at_ (R : SetS w h a L) (k : ∀ o, h.get? a = some o → h'.get? a = some o) : SetS w h' a L := by
  obtain ⟨o, es, ep, t, ho, r⟩ := R
  exact ⟨o, es, ep, t, k o ho, r⟩
theorem good_elemsT {l : List (Int × Value)} (g : ∀ e ∈ l, GoodT w e) : ElemsOf (PySem.strKind P w) l := fun e he => by
  obtain ⟨k, tk, h1, h2⟩ := g e he
  exact ⟨⟨k, by rw [h1]; exact strKind_is P w k tk, h2⟩, by rw [h1] <;> rfl⟩
theorem good_isT {e : Int × Value} (g : GoodT w e) (k : Str) : (PySem.strKind P w).is k e.2 = true ↔ keyT e = k := by
  obtain ⟨k0, tk, h1, _⟩ := g
  unfold keyT
  rw [h1]
  show (Value.isStrOf k (.str k0 tk) = true) ↔ k0 = k
  simp [Value.isStrOf]
theorem good_memT {l : List (Int × Value)} (g : ∀ e ∈ l, GoodT w e) (k : Str) : k ∈ l.map keyT ↔ ∃ e ∈ l, (PySem.strKind P w).is k e.2 = true := by
  rw [List.mem_map]
  exact ⟨fun ⟨e, he, q⟩ => ⟨e, he, (good_isT (g e he) k).2 q⟩, fun ⟨e, he, q⟩ => ⟨e, he, (good_isT (g e he) k).1 q⟩⟩
theorem SetS.size (R : SetS w h a L) : L.length < scanBound := by
  obtain ⟨o, es, ep, t, ho, hx, hd, g, pm, nd, hb, _⟩ := R
  rw [← pm.length_eq, List.length_map, Array.length_toList]
  exact hb
end
section
variable {P : Program} {w : World} {A : Around} {E : Value → Shared → Prop} {s : Shared} {a : Addr} {L : List Str}
theorem add_tail {g : Bool → Sem Unit} (hg : ∀ (b : Bool) (s₁ : Shared) (Q' : Unit → Shared → Prop), Q' () s₁ → wpAny (model P w) A (g b) Q' E s₁)
    {o : Obj} {es : Array (Int × Value)} {ep : Nat} {t : SetTable} (ho : s.heap.get? a = some o) (hex : o.ExactSet) (hd : o.data = .set es ep t)
    {es1 : Array (Int × Value)} {t2 : SetTable} {L' : List Str} (g1 : ∀ e ∈ es1.toList, GoodT w e) (pm1 : (es1.toList.map keyT).Perm L') (nd1 : L'.Nodup)
    (hb1 : es1.size < scanBound) (hf2 : t2.fits es1.size = true) (hr : Ris t2.place.toList) (hl : w.params.followText "set-order" = true ∨ t2.led = true) {wasDummy : Bool} {R : Option Bool → Shared → Prop}
    (hR : ∀ h', Heap.SameBut a s.heap h' → SetS w h' a L' → R (some true) { s with heap := h' }) :
    wpAny (model P w) A (do
        storeSet a es1 t2
        if (!wasDummy && t2.tooFull) = true then do
            g (relayAll t2 es1 (SetTable.grown es1.size)).2.2
            storeSet a (relayAll t2 es1 (SetTable.grown es1.size)).1 (relayAll t2 es1 (SetTable.grown es1.size)).2.1
            pure (some true)
          else pure (some true)) R E s := by
  refine wpAny_bind (wpAny_storeSet_of ho hd ?_ (fits_of_scanBound hb1))
  have ho1 := store_at (es' := es1) (t' := t2) ho hd
  have sb1 := Heap.SameBut.update s.heap a (Obj.putSet es1 t2)
  split
  · have pm := relayAll_perm t2 es1 (SetTable.grown es1.size)
    have hf3 := relayAll_fits t2 es1 (SetTable.grown es1.size)
    have hr3 := relayAll_ris t2 es1 (SetTable.grown es1.size)
    have hl3 := relayAll_led t2 es1 (SetTable.grown es1.size)
    generalize relayAll t2 es1 (SetTable.grown es1.size) = Z at pm hf3 hr3 hl3 ⊢
    obtain ⟨es2, t3, gave⟩ := Z
    dsimp only at pm hf3 hr3 hl3 ⊢
    have hb2 : es2.size < scanBound := by rw [← Array.length_toList, pm.length_eq, Array.length_toList]; exact hb1
    refine wpAny_bind (hg _ _ _ ?_)
    refine wpAny_bind (wpAny_storeSet_of ho1 rfl ?_ (fits_of_scanBound hb2))
    have ho2 := store_at (es' := es2) (t' := t3) ho1 rfl
    refine wpAny_pure (hR _ (sb1.trans (Heap.SameBut.update _ a _)) ?_)
    exact ⟨_, es2, _, t3, ho2, hex, rfl, fun e he => g1 e (pm.mem_iff.mp he), (pm.map keyT).trans pm1, nd1, hb2, hf3, hr3, hl.imp id fun z => by rw [hl3]; exact z⟩
  · exact wpAny_pure (hR _ sb1 ⟨_, es1, _, t2, ho1, hex, rfl, g1, pm1, nd1, hb1, hf2, hr, hl⟩)
theorem add_hashed {k : Str} {tk : Tok} {Q : Bool → Shared → Prop} (R : SetS w s.heap a L) (room : L.length + 1 < scanBound)
    (hQ : ∀ h' b, Heap.SameBut a s.heap h' → SetS w h' a (ddS L k) → Q b { s with heap := h' }) :
    wpAny (model P w) A (setAddHashed a (.str k tk) ((PySem.strKind P w).hash k)) Q E s := by
  obtain ⟨o, es, ep, t, ho, hex, hd, g, pm, nd, hb, hf, hr, hl⟩ := id R
  have hkey : (PySem.strKind P w).is k (.str k tk) = true := strKind_is P w k tk
  have hsc : (Value.str k tk).scannable = true := rfl
  have hel : ElemsOf (PySem.strKind P w) es.toList := good_elemsT g
  unfold setAddHashed setAddHashedIn
  refine wpAny_holding (wpAny_bind (wpAny_setState_of ho hd hf ?_))
  dsimp only
  rw [byScan_of hsc hb hel]
  simp only [↓reduceIte]
  unfold setAddByScan
  refine wpAny_bind ?_
  refine wpAny_bind (wpAny_rule ?_)
  refine wpAny_bind (wpAny_setScan_of hkey ho hd hf hel ?_)
  cases hfi : List.findIdx? (fun e => (PySem.strKind P w).is k e.2) es.toList with
  | some j =>
    dsimp only
    obtain ⟨hj, pj, _⟩ := List.findIdx?_eq_some_iff_getElem.mp hfi
    have hk : k ∈ L := pm.mem_iff.mp ((good_memT (P := P) (w := w) g k).2 ⟨es.toList[j], List.getElem_mem hj, pj⟩)
    refine wpAny_pure (wpAny_pure (hQ s.heap _ (Heap.SameBut.refl a s.heap) ?_))
    unfold ddS
    rw [if_pos hk]
    exact R
  | none =>
    dsimp only
    have hnk : k ∉ L := fun z => by
      obtain ⟨e, he, q⟩ := (good_memT (P := P) (w := w) g k).1 (pm.mem_iff.mpr z)
      have c := List.findIdx?_eq_none_iff.mp hfi e he
      rw [q] at c
      cases c
    have hgw : ∀ (b : Bool) {s₁ : Shared} {Q' : Unit → Shared → Prop}, Q' () s₁ → wpAny (model P w) A (match b with | true => rule "set.scan.the-table-gave-way" | false => pure ()) Q' E s₁ :=
      fun b s₁ Q' q => by cases b <;> first | exact wpAny_pure q | exact wpAny_rule q
    have pl := layNew_perm t es ((PySem.strKind P w).hash k) (.str k tk)
    have hf1 := layNew_fits t es ((PySem.strKind P w).hash k) (.str k tk)
    have hr1 := layNew_ris t es ((PySem.strKind P w).hash k) (.str k tk) hr
    have hl1 := layNew_led t es ((PySem.strKind P w).hash k) (.str k tk)
    generalize layNew t es ((PySem.strKind P w).hash k) (.str k tk) = Z at pl hf1 hr1 hl1 ⊢
    obtain ⟨es1, t1, wasDummy, gave⟩ := Z
    dsimp only at pl hf1 hr1 hl1 ⊢
    rw [Array.toList_push] at pl
    have pc : es1.toList.Perm (((PySem.strKind P w).hash k, Value.str k tk) :: es.toList) := pl.trans (List.perm_append_singleton _ _)
    have pk : (es1.toList.map keyT).Perm (k :: es.toList.map keyT) := pc.map keyT
    have g1 : ∀ e ∈ es1.toList, GoodT w e := fun e he => by
      rcases List.mem_cons.mp (pc.mem_iff.mp he) with z | z
      · rw [z]; exact ⟨k, tk, rfl, rfl⟩
      · exact g e z
    have eL : ddS L k = L ++ [k] := by
      unfold ddS
      rw [if_neg hnk]
    have pm1 : (es1.toList.map keyT).Perm (ddS L k) := by
      rw [eL]
      exact (pk.trans (pm.cons k)).trans (List.perm_append_singleton _ _).symm
    have nd1 : (ddS L k).Nodup := ddS_nd nd
    have hb1 : es1.size < scanBound := by
      have e := pm1.length_eq
      rw [List.length_map, Array.length_toList] at e
      rw [e, eL, List.length_append]
      exact room
    have hled : w.params.followText "set-order" = true ∨ t1.led = true := hl.imp id fun z => by rw [hl1]; exact z
    refine wpAny_bind (hgw _ ?_)
    split
    · refine wpAny_bind ?_
      rw [hashByValue_scannable 8 hsc]
      refine wpAny_pure ?_
      refine add_tail ?_ ho hex hd g1 pm1 nd1 hb1 ?_ ?_ ?_ ?_
      · intro b s₁ Q' q; cases b <;> first | exact wpAny_pure q | exact wpAny_rule q
      · first | (split <;> first | exact hf1 | exact SetTable.fits_plain_off hf1) | exact hf1
      · first | (split <;> exact hr1) | exact hr1
      · first | (split <;> exact hled) | exact hled
      · intro h' sb r; dsimp only; exact wpAny_pure (hQ h' _ sb r)
    · refine wpAny_bind (wpAny_pure ?_)
      simp only [↓reduceIte]
      refine add_tail ?_ ho hex hd g1 pm1 nd1 hb1 hf1 hr1 hled ?_
      · intro b s₁ Q' q; cases b <;> first | exact wpAny_pure q | exact wpAny_rule q
      · intro h' sb r; dsimp only; exact wpAny_pure (hQ h' _ sb r)
/-- set.update's loop over texts -/
theorem update_strs {I : Addr} {fp wr : List Addr} {G : Array GenState → Array GenState → Prop} {n : Nat} {Pv : Nat → Value → Prop} {St : Nat → Shared → Prop} {R : Result → Shared → Prop}
    (W : WalksS P w A.in1 I fp wr G n Pv St) (S : Addr) (hSf : S ∉ fp) (xs : List Str) (hn : n = xs.length) (hb : xs.length + 1 < scanBound) (hval : ∀ i v, Pv i v → ∃ k t, xs[i]? = some k ∧ v = .str k t) :
    ∀ (k i : Nat) (s : Shared), n - i = k → i ≤ n → St i s → SetS w s.heap S (dd (xs.take i)) ∧ (dd (xs.take i)).length ≤ i →
      (∀ s', Moved (S :: wr) G s s' → SetS w s'.heap S (dd xs) → R (.ok (.ret .none)) s') →
      codeAny (model P w) A (.builtin "set.update.loop" ⟨[.ref S, .ref I], []⟩) R s := by
  have hSw : S ∉ wr := fun h => hSf (W.sub _ h)
  have hsub : ∀ b ∈ wr, b ∈ S :: wr := fun b hb => List.mem_cons_of_mem _ hb
  intro k
  induction k with
  | zero =>
    intro i s hk' hi hst ⟨hS, hc⟩ hR
    have hin : i = n := by omega
    subst hin
    refine codeAny_builtin F.entry_set_update_loop ?_
    rw [Around.under_plainId F.plain_set_update_loop _]
    show wpAny _ A.in1 (pyNext (.ref I) >>= _) _ _ s
    refine wpAny_bind (W.done s _ _ hst fun s' hm => ?_)
    show wpAny _ A.in1 (ret Value.none) _ _ s'
    have e : xs.take i = xs := List.take_of_length_le (by omega)
    rw [e] at hS
    exact wpAny_pure (hR s' (hm.mono hsub) (hS.at_ fun o e => hm.heap S o hSw e))
  | succ k ih =>
    intro i s hk' hi hst ⟨hS, hc⟩ hR
    have hlt : i < n := by omega
    refine codeAny_builtin F.entry_set_update_loop ?_
    rw [Around.under_plainId F.plain_set_update_loop _]
    show wpAny _ A.in1 (pyNext (.ref I) >>= _) _ _ s
    refine wpAny_bind (W.item i s _ _ hlt hst fun v s' hP hst' hm => ?_)
    obtain ⟨z, t, hz, rfl⟩ := hval i v hP
    have hS' : SetS w s'.heap S (dd (xs.take i)) := hS.at_ fun o e => hm.heap S o hSw e
    show wpAny _ A.in1 (holding [Value.str z t] (setAdd S (.str z t)) >>= _) _ _ s'
    refine wpAny_bind (wpAny_holding ?_)
    unfold setAdd
    refine wpAny_holding ?_
    refine wpAny_bind ((PySem.strKind P w).pyHash (k := z) (strKind_is _ _ _ _) ?_)
    refine add_hashed (s := { s' with toks := s'.toks + 1 }) hS' (by omega) fun h' b0 hsb hS2 => ?_
    have eT : dd (xs.take (i + 1)) = ddS (dd (xs.take i)) z := by
      rw [List.take_add_one, hz]
      exact dd_snoc _ _
    have hS3 : SetS w h' S (dd (xs.take (i + 1))) := by
      rw [eT]
      exact hS2
    have hc3 : (dd (xs.take (i + 1))).length ≤ i + 1 := by
      rw [eT]
      exact Nat.le_trans ddS_len (by omega)
    refine wpAny_pure ⟨plainId_quiet F.plain_set_update_loop _, ih (i + 1) _ (by omega) hlt (W.frame _ s' _ _ hst' (Nat.le_succ _) fun b hb o e => ?_) ⟨hS3, hc3⟩ fun s'' hm'' hS'' => ?_⟩
    · rw [hsb.2 b (fun h : b = S => hSf (by rw [← h]; exact hb))]; exact e
    · refine hR s'' (Moved.trans W.gtrans ((hm.mono hsub).then_heap (Nat.le_succ _) fun b o hb e => ?_) hm'') hS''
      rw [hsb.2 b (fun h : b = S => hb (by rw [h]; exact List.mem_cons_self))]; exact e
end
end R3
set_option Elab.async false
set_option linter.all false
set_option maxRecDepth 100000
namespace R3
open PySem PySem.Spec PyProof.Rows L2
theorem set_at0 {w : World} {h : Heap} {a : Addr} (ho : h.get? a = some { cls := .type "set", dict := none, data := .set #[] 0 (.fresh 0 0 (!w.params.followText "set-order")) }) : SetS w h a [] :=
  ⟨_, #[], 0, _, ho, ⟨rfl, rfl, rfl⟩, rfl, (fun e he => by simp at he), (by simp), List.nodup_nil, (by decide), (by rfl), List.Pairwise.nil, by
    show _ ∨ (!w.params.followText "set-order") = true
    cases w.params.followText "set-order"
    · exact .inr rfl
    · exact .inl rfl⟩
section
variable {P : Program} {w : World} {A : Around} {E : Value → Shared → Prop} {s : Shared}
set_option maxHeartbeats 3200000 in
/-- set(xs), xs a list of texts -/
theorem call_set {l : Addr} {us : List Value} {xs : List Str} {Q : Value → Shared → Prop} (hh : A.handled = none) (hl : s.heap.IsList l us.toArray) (hi : StrsAre us xs) (hb : xs.length + 1 < scanBound)
    (h : ∀ (h' : Heap) (tk : Nat), SetS w h' s.heap.objs.size (dd xs) → (∀ b o, s.heap.get? b = some o → h'.get? b = some o) → Q (.ref s.heap.objs.size) { s with heap := h', toks := tk }) :
    wpAny (model P w) A (call (.type "set") [.ref l]) Q E s := by
  obtain ⟨c, tl, hmro⟩ := F.called_set.mro
  have hmade := F.called_set.made
  have hsub := F.called_set.sub
  refine wpAny_call (codeAny_of_tree ?_)
  show wpAny _ _ (callAny (.type "set") _) _ _ _
  refine wpAny_pure ⟨Code.quiet_builtin _ (by decide +kernel), codeAny_builtin F.entry_type_call ?_⟩
  rw [Around.under_plain (weight_type_call_type "set" [.ref l] []) rfl]
  have h1 := F.called_set.notType
  have h2 := F.called_set.canCreate
  have hct := F.typeCall_set_1 (.ref l)
  repeat (any_goals (first | assumption | wp_step))
  refine codeAny_mono (code_set_led1 (.ref l) (E := E) (Q₁ := fun obj s₁ => obj = .ref s.heap.objs.size ∧ s₁ = { s with heap := s.heap.push { cls := .type "set", dict := none, data := .set #[] 0 (.fresh 0 0 (!w.params.followText "set-order")) } }) ⟨rfl, rfl⟩) fun r s₁ hr => ?_
  cases r with
  | error e => exact hr
  | ok fl =>
    cases fl with
    | ret obj =>
      obtain ⟨rfl, rfl⟩ := hr
      have hS : (s.heap.push { cls := .type "set", dict := none, data := .set #[] 0 (.fresh 0 0 (!w.params.followText "set-order")) }).get? s.heap.objs.size = some { cls := .type "set", dict := none, data := .set #[] 0 (.fresh 0 0 (!w.params.followText "set-order")) } := Heap.get?_push_size _ rfl
      have hT : Shared.TypeIs { s with heap := s.heap.push { cls := .type "set", dict := none, data := .set #[] 0 (.fresh 0 0 (!w.params.followText "set-order")) } } (.ref s.heap.objs.size) "set" := ⟨_, hS, rfl⟩
      have hli := F.called_set.init.lookup
      have hbi := F.called_set.init.bind (.ref s.heap.objs.size)
      repeat (any_goals (first | assumption | wp_step))
      refine codeAny_mono (codeAny_call_builtin (R := wants (fun r s₂ => r = .none ∧ ∃ h' tk, s₂ = { s with heap := h', toks := tk } ∧ SetS w h' s.heap.objs.size (dd xs) ∧
          (∀ b o, s.heap.get? b = some o → h'.get? b = some o)) E) F.called_set.init.plain F.entry_set_init (check_set_init_1 hT ?_)) fun r₂ s₂ hr₂ => ?_
      · obtain ⟨ol, hol, hcl, nl, hdl⟩ := hl
        obtain ⟨ocls, odict, odata, oslots⟩ := ol
        simp only at hcl hdl
        subst hcl; subst hdl
        have hol' : (s.heap.push { cls := .type "set", dict := none, data := .set #[] 0 (.fresh 0 0 (!w.params.followText "set-order")) }).get? l = some { cls := .type "list", dict := odict, data := .seq us.toArray nl, slots := oslots } := Heap.get?_push_of_some _ hol
        have hsls := PySem.F.sub_list_set
        have hslf := PySem.F.sub_list_frozenset
        have hne : (Value.type "list" == Value.type "dict") = false := by decide
        have hl1 : (s.heap.push { cls := .type "set", dict := none, data := .set #[] 0 (.fresh 0 0 (!w.params.followText "set-order")) }).IsList l us.toArray := ⟨_, hol', rfl, nl, rfl⟩
        unfold Builtin.«set.__init__» noKeywords Builtin.Frozenset.updateFrom
        generalize hPI : pyIter = PI
        wp_walk
        subst hPI
        refine wpAny_pyIter_list hl1 ?_
        refine wpAny_bind (wpAny_runValue ?_)
        have hlS : l < s.heap.objs.size := Heap.lt_size hol
        have hh3 : A.in1.in1.in1.handled = none := by simp [hh]
        have hz1 : (s.heap.push { cls := .type "set", dict := none, data := .set #[] 0 (.fresh 0 0 (!w.params.followText "set-order")) }).objs.size = s.heap.objs.size + 1 := Heap.size_push ..
        have hneI : l ≠ (s.heap.push { cls := .type "set", dict := none, data := .set #[] 0 (.fresh 0 0 (!w.params.followText "set-order")) }).objs.size := by
          rw [hz1]; exact Nat.ne_of_lt (Nat.lt_succ_of_lt hlS)
        have hSf : s.heap.objs.size ∉ [(s.heap.push { cls := .type "set", dict := none, data := .set #[] 0 (.fresh 0 0 (!w.params.followText "set-order")) }).objs.size, l] := by
          rw [hz1]; simp only [List.mem_cons, List.mem_singleton, List.not_mem_nil, or_false, not_or]
          exact ⟨Nat.ne_of_lt (Nat.lt_succ_self _), Nat.ne_of_gt hlS⟩
        have hz := R2.strs_len hi
        have hval : ∀ (i : Nat) (v : Value), us.toArray[i]? = some v → ∃ k t, xs[i]? = some k ∧ v = .str k t := fun i v hv => by
          obtain ⟨t, e, hl⟩ := R2.strs_get hi (i := i) (v := v) (by simpa using hv)
          refine ⟨xs[i], t, List.getElem?_eq_getElem hl, ?_⟩
          rw [e, R2.stAt, List.getD_eq_getElem?_getD, List.getElem?_eq_getElem hl] <;> rfl
        refine update_strs ((Walks.list hh3 _ l hneI us.toArray).toS) s.heap.objs.size
          hSf xs (by simpa using hz) hb hval (us.toArray.size - 0) 0 _ (by omega) (Nat.zero_le _)
          ⟨⟨_, Heap.get?_push_size _ rfl, rfl, rfl⟩, (hl1.push _)⟩ ?hS0 ?hR
        case hS0 =>
          refine ⟨set_at0 ?_, Nat.le_refl _⟩
          exact Heap.get?_push_of_some _ hS
        case hR =>
          intro s' hm hS'
          obtain ⟨h', g2, d', tk', os'⟩ := s'
          have eg : g2 = s.gens := hm.gens
          have ed : d' = s.drawn := hm.drawn
          have eo : os' = s.os := hm.os
          subst eg; subst ed; subst eo
          show wpAny _ _ _ _ _ _
          refine wpAny_pure ?_
          show wpAny _ _ (ret Value.none) _ _ _
          refine wpAny_pure ⟨rfl, h', tk', rfl, hS', fun b o e => ?_⟩
          have hb0 : b < s.heap.objs.size := Heap.lt_size e
          have hb1 : b ≠ s.heap.objs.size := Nat.ne_of_lt hb0
          have hb2 : b ≠ (s.heap.push { cls := .type "set", dict := none, data := .set #[] 0 (.fresh 0 0 (!w.params.followText "set-order")) }).objs.size := by
            rw [hz1]; exact Nat.ne_of_lt (Nat.lt_succ_of_lt hb0)
          exact hm.heap b o (by simp only [List.mem_cons, List.mem_singleton, List.not_mem_nil, or_false, not_or]; exact ⟨hb1, hb2⟩) (Heap.get?_push_of_some _ (Heap.get?_push_of_some _ e))
      · cases r₂ with
        | error e => exact hr₂
        | ok fl₂ =>
          cases fl₂ with
          | ret r =>
            obtain ⟨rfl, h', tk, rfl, hS', hk'⟩ := hr₂
            repeat (any_goals (first | assumption | wp_step))
            exact h _ _ hS' hk'
          | _ => exact hr₂.elim
    | _ => exact hr.elim
/-- sorted of what is gathered into texts -/
theorem sorted_by {u : Value} {Q : Value → Shared → Prop}
    (hc : wpAny (model P w) A.in1 (collect u) (fun vs s1 => ∃ ss, StrsAre vs ss ∧ ss.length < 64 ∧ ∀ (out : Array Value) (ys : List Str) (c : Nat) (h' : Heap), StrsAre out.toList ys → ys.Perm ss → sortedS ys = true →
      (∀ b o, s1.heap.get? b = some o → h'.get? b = some o) → h'.get? s1.heap.objs.size = some (seqObj "list" out c) → Q (.ref s1.heap.objs.size) { s1 with heap := h' }) E s) :
    wpAny (model P w) A (call (.builtin "sorted") [u]) Q E s := by
  refine Calls.call_function_entry kind_sorted plain_sorted entry_sorted (args_sorted1 _) ?_
  unfold Builtin.«sorted»
  refine wpAny_bind (m := checkCount "sorted" 1 1 _) (wpAny_pure ?_)
  refine wpAny_bind (wpAny_mono hc (fun vs s1 hq => ?_) fun _ _ e => e)
  obtain ⟨ss, hS, h64, hQ⟩ := hq
  have hvl : vs.length = ss.length := R2.strs_len hS
  refine wpAny_bind (wpAny_newList ?_ (by rw [hvl, sizeLine_eq]; omega))
  have hoL : (s1.heap.push (seqObj "list" vs.toArray 0)).get? s1.heap.objs.size = some (seqObj "list" vs.toArray 0) := Heap.get?_push_size _ rfl
  refine wpAny_bind (wpAny_holding (wpAny_call_entry slot_list_sort ⟨_, hoL, rfl⟩ entry_list_sort
    (list_sort_treeK strKind_oneLt hoL hS.keysOf (fun v₁ v₂ rest e => keyKind_strs (by rw [← e]; exact hS)) (by rw [hvl]; exact h64) fun st' hp hs => ⟨_, rfl, ?_⟩) (args_list_sort _)))
  obtain ⟨ys, g1, g2, g3⟩ := sorted_out_str hS hp hs
  obtain ⟨ep, he'⟩ := sortedHeap_at (vs := vs) (out := (arrOf st').map (·.2)) hoL
  refine wpAny_pure ⟨_, rfl, hQ _ ys ep _ g1 g2 g3 (fun b u e => ?_) he'⟩
  have hlt := Heap.lt_size e
  rw [sortedHeap_old (Nat.ne_of_lt hlt) (by rw [size_push']; exact Nat.lt_succ_of_lt hlt)]
  exact Heap.get?_push_of_some _ e
end
section
variable {X : Cx} {pins : List (Addr × Obj)} {σ : L2.St} {H : Hp} {s : Shared}
/-- a set of texts that is tracked -/
def SetSO (w : World) (a : Addr) (L : List Str) : HO := .ext fun h => SetS w h a L
theorem setSO_new {w : World} {P : Program} {H : Hp} {h : Heap} {a : Addr} {L : List Str} (R : SetS w h a L) : ObjOk P w H h a (SetSO w a L) := by
  refine ⟨R, ?_, fun h1 h2 p k => SetS.at_ p k⟩
  obtain ⟨o, _, _, _, ho, _⟩ := R
  exact ⟨o, ho⟩
theorem setSO_get {a : Addr} {L : List Str} (I : Inv X pins σ H s) (ha : H a = some (SetSO X.w a L)) : SetS X.w s.heap a L := (I.hok a _ ha).1
theorem scan64 {n : Nat} (h : n < 1000) : n + 1 < scanBound := Nat.lt_of_le_of_lt (show n + 1 ≤ 1000 from h) (by decide)
/-- set(xs), xs a list of texts -/
def rSetS (K : PySem.W.Frag) (w : World) : List V → Hp → VK → Prop := fun xs H Q => ∃ (a : Addr) (ys : List Str), xs = [.ref a] ∧ SqL K H a (ys.map V.str) ∧ ys.length < 1000 ∧ ∀ p, H p = none → Q (.ref p) (upd H p (SetSO w p (dd ys)))
theorem cr_setS (hc : X.calm = true) : CallR X (.type "set") (rSetS X.K X.w) := by
  intro pins s σ H xs us Q I r h
  obtain ⟨a, ys, rfl, hs, h64, q⟩ := h
  obtain ⟨its, rv, hl, _⟩ := I.list hs
  rw [Vals.ref1 r]
  refine call_set (I.ok.hd hc) hl.isList rv.strs (scan64 h64) fun h' tk hS hk => ?_
  exact ⟨.ref _, upd H s.heap.objs.size (SetSO X.w s.heap.objs.size (dd ys)), I.laid (t' := tk) hk (Nat.le_refl _) (setSO_new hS), rfl, q _ (I.hok.fresh (Nat.le_refl _))⟩
/-- len(set) -/
def rLenSS (w : World) : List V → Hp → VK → Prop := fun xs H Q => ∃ (a : Addr) (L : List Str), xs = [.ref a] ∧ H a = some (SetSO w a L) ∧ Q (.int L.length) H
theorem cr_lenSS : CallR X (.builtin "len") (rLenSS X.w) := by
  intro pins s σ H xs us Q I r h
  obtain ⟨a, L, rfl, ha, q⟩ := h
  rw [Vals.ref1 r]
  obtain ⟨o, es, ep, t, ho, hex, hd, g, pm, nd, hb, hf, _⟩ := setSO_get I ha
  have e : es.size = L.length := by
    rw [← pm.length_eq, List.length_map, Array.length_toList]
  have h63 : es.size < 2 ^ 63 := Nat.lt_of_lt_of_le hb (by decide)
  refine call_len_set ho hex hd hf (by omega) ⟨.int L.length, H, I.tok _, ⟨_, by rw [e]⟩, q⟩
/-- sorted(set) -/
def rSortSS (w : World) : List V → Hp → VK → Prop := fun xs H Q => ∃ (a : Addr) (L : List Str), xs = [.ref a] ∧ H a = some (SetSO w a L) ∧ L.length < 64 ∧ ∀ (ys : List Str) (p : Addr), ys.Perm L → sortedS ys = true → H p = none → Q (.ref p) (upd H p (.lst (ys.map V.str)))
theorem sorted_fin {Q : VK} {L ys : List Str} {out : Array Value} {c : Nat} {s1 : Shared} {h' : Heap} (I : Inv X pins σ H s1) (h64 : L.length < 64) (a1 : StrsAre out.toList ys) (a2 : ys.Perm L) (hk : ∀ b o, s1.heap.get? b = some o → h'.get? b = some o)
    (hp : h'.get? s1.heap.objs.size = some (seqObj "list" out c)) (q : ∀ p : Addr, H p = none → Q (.ref p) (upd H p (.lst (ys.map V.str)))) : EP X pins σ Q (.ref s1.heap.objs.size) { s1 with heap := h' } := by
  have hlen : (ys.map V.str).length ≤ sizeLine := by rw [List.length_map, a2.length_eq, sizeLine_eq]; omega
  exact ⟨.ref _, upd H s1.heap.objs.size (.lst (ys.map V.str)), I.laid (t' := s1.toks) hk (Nat.le_refl _) ⟨hlen, out.toList, c, vals_of_strs a1, by rw [Array.toArray_toList]; exact hp⟩, rfl, q _ (I.hok.fresh (Nat.le_refl _))⟩
theorem cr_sortSS (hc : X.calm = true) : CallR X (.builtin "sorted") (rSortSS X.w) := by
  intro pins s σ H xs us Q I r h
  obtain ⟨a, L, rfl, ha, h64, q⟩ := h
  rw [Vals.ref1 r]
  obtain ⟨o, es, ep, t, ho, hex, hd, g, pm, nd, hb, hf, hr, hl⟩ := setSO_get I ha
  refine sorted_by (collect_set (A := X.A.in1) (I.ok.hd hc) ⟨o, ho, hex.1, hd⟩ hf hb hr hl fun s1 vs k1 hz g1 o1 pv => ?_)
  have hS : StrsAre vs (vs.map fun v => keyT (0, v)) := by
    have : ∀ (vs : List Value), (∀ v ∈ vs, ∃ k tk, v = Value.str k tk) → StrsAre vs (vs.map fun v => keyT (0, v)) := by
      intro vs
      induction vs with
      | nil => intro _; exact .nil
      | cons v r ih =>
        intro h
        obtain ⟨k, tk, rfl⟩ := h v List.mem_cons_self
        exact .cons k tk (ih fun u hu => h u (List.mem_cons_of_mem _ hu))
    refine this vs fun v hv => ?_
    obtain ⟨e, he, q⟩ := List.mem_map.mp (pv.mem_iff.mp hv)
    obtain ⟨k, tk, h1, _⟩ := g e he
    exact ⟨k, tk, by rw [← q]; exact h1⟩
  have pL : (vs.map fun v => keyT (0, v)).Perm L := by
    have q2 := pv.map fun v => keyT (0, v)
    rw [List.map_map] at q2
    exact q2.trans pm
  have I1 : Inv X pins σ H s1 := by
    obtain ⟨h1, g', d1, t1, o1'⟩ := s1
    exact I.call' (ch := []) o1 (Un.kept k1) (I.hok.kept k1) (by rw [g1]; exact I.bare) (fun _ z => nomatch z)
  exact ⟨_, hS, by rw [pL.length_eq]; exact h64, fun out ys c h' a1 a2 a3 hk hp => sorted_fin I1 h64 a1 (a2.trans pL) hk hp fun p hp => q ys p (a2.trans pL) a3 hp⟩
/-- the signs of a text -/
def signs (x : Str) : List Str := x.cps.toList.map fun c => (⟨#[c]⟩ : Str)
/-- sorted(text) -/
def rSortTx : List V → Hp → VK → Prop := fun xs H Q => ∃ x : Str, xs = [.str x] ∧ x.cps.size < 64 ∧ ∀ (ys : List Str) (p : Addr), ys.Perm (signs x) → sortedS ys = true → H p = none → Q (.ref p) (upd H p (.lst (ys.map V.str)))
theorem cr_sortTx (hc : X.calm = true) : CallR X (.builtin "sorted") rSortTx := by
  intro pins s σ H xs us Q I r h
  obtain ⟨x, rfl, h64, q⟩ := h
  obtain ⟨u, eu, t, rfl⟩ := vals1 r
  subst eu
  refine sorted_by (wpAny_collect_str (A := X.A.in1) (I.ok.hd hc) x t (fun s1 acc k1 g1 d1 o1 hacc => ?_) (by rw [sizeLine_eq]; omega))
  have hS : StrsAre acc.toList (signs x) := by
    have key : ∀ (cs : List Nat) (vs : List Value) (hl : vs.length = cs.length), (∀ (j : Nat) (v : Value), vs[j]? = some v → ∃ c t, cs[j]? = some c ∧ v = Value.str ⟨#[c]⟩ t) → StrsAre vs (cs.map fun c => (⟨#[c]⟩ : Str)) := by
      intro cs
      induction cs with
      | nil =>
        intro vs hl _
        cases vs with
        | nil => exact .nil
        | cons _ _ => simp at hl
      | cons c cs ih =>
        intro vs hl hv
        cases vs with
        | nil => simp at hl
        | cons v vs =>
          obtain ⟨c', t, e1, e2⟩ := hv 0 v rfl
          have e3 : c = c' := Option.some.inj e1
          subst e3
          subst e2
          exact .cons _ t (ih vs (by simpa using hl) fun j v' h' => hv (j + 1) v' (by simpa using h'))
    refine key x.cps.toList acc.toList (by rw [Array.length_toList, Array.length_toList]; exact hacc.1) fun j v hv => ?_
    have hv' : acc[j]? = some v := by rw [← Array.getElem?_toList]; exact hv
    obtain ⟨c, t', e1, e2⟩ := hacc.2 j v hv'
    exact ⟨c, t', by rw [Array.getElem?_toList]; exact e1, e2⟩
  have hz : (signs x).length < 64 := by unfold signs; rw [List.length_map, Array.length_toList]; exact h64
  have I1 : Inv X pins σ H s1 := by
    obtain ⟨h1, g', d1, t1, o1'⟩ := s1
    exact I.call' (ch := []) o1 (Un.kept k1) (I.hok.kept k1) (by rw [g1]; exact I.bare) (fun _ z => nomatch z)
  exact ⟨_, hS, hz, fun out ys c h' a1 a2 a3 hk hp => sorted_fin I1 hz a1 a2 hk hp fun p hp => q ys p a2 a3 hp⟩
end
end R3
set_option Elab.async false
set_option linter.all false
set_option maxRecDepth 100000
/-! text[::-1] -/
namespace R4
open PySem PySem.Spec PyProof.Rows L2
def revS (z : Str) : Str := ⟨z.cps.toList.reverse.toArray⟩
theorem rev_is (z : Str) (u : Tok) : Txt.sliceBy z none none (-1, u) = revS z := by
  have h := step_rev_list z u
  have e : ((List.range z.length).map fun k => z.cps.getD (z.length - 1 - k) 0) = z.cps.toList.reverse := by
    apply List.ext_getElem
    · simp [Str.length]
    · intro i h1 h2
      have hi : i < z.cps.size := by simpa [Str.length] using h1
      have hj : z.cps.size - 1 - i < z.cps.size := by omega
      simp [Str.length, Array.getD, List.getElem_reverse, hj]
  rw [e] at h
  unfold revS
  generalize Txt.sliceBy z none none (-1, u) = y at h
  obtain ⟨⟨l⟩⟩ := y
  have h' : l = z.cps.toList.reverse := h
  rw [h']
section
variable {X : Cx}
def tRevS (te : TE) : TE := fun σ H Q => te σ H fun x H1 => ∃ z : Str, x = .str z ∧ z.length ≤ sizeLine ∧ Q (.str (revS z)) H1
theorem pe_revS {e : Expr} {te : TE} {k : Nat} {p1 p2 p3 pos : Pos} (he : PE X e te) : PE X (.Subscript e (.Slice none none (some (.UnaryOp .USub (.Constant (.int 1) k p1) p2)) p3) pos) (tRevS te) := by
  refine ⟨fun pins s σ H Q I h => ?_⟩
  refine Subscript_ (thn (he.run pins s σ H _ I h) fun v s1 ⟨x, H1, I1, r1, q1⟩ => ?_)
  obtain ⟨z, rfl, hz, q⟩ := q1
  obtain ⟨t, rfl⟩ := r1
  have hst : PO X (some (.UnaryOp .USub (.Constant (.int 1) k p1) p2)) (tPart (tUn (rU fun i => .int (-i)) (tC (.int 1)))) := po_some (pe_un un_neg pe_int)
  refine wpAny_Slice (thn (po_none.run pins s1 σ H1 (fun o H2 => o = none ∧ H2 = H1) I1 ⟨rfl, rfl⟩) fun vl s2 ⟨l, H2, I2, pl, el, e2⟩ => ?_)
  subst el e2
  refine thn (po_none.run pins s2 σ H2 (fun o H3 => o = none ∧ H3 = H2) I2 ⟨rfl, rfl⟩) fun vu s3 ⟨u, H3, I3, pu, eu, e3⟩ => ?_
  subst eu e3
  refine thn (hst.run pins s3 σ H3 (fun o H4 => o = some (-1) ∧ H4 = H3) I3 ⟨1, rfl, -1, rfl, rfl, rfl⟩) fun vs s4 ⟨o, H4, I4, ps, eo, e4⟩ => ?_
  subst eo e4
  have I5 : Inv X pins σ H4 { s4 with heap := s4.heap.push { cls := .type "slice", data := .fields #[vl, vu, vs] } } := I4.kept (t' := s4.toks) fun b ob q => Heap.get?_push_of_some _ q
  obtain ⟨l, rfl, e1⟩ := IsPart.raw pl
  obtain ⟨u, rfl, e2⟩ := IsPart.raw pu
  obtain ⟨w', rfl, e3⟩ := IsPart.raw ps
  cases l with
  | some _ => cases e1
  | none =>
    cases u with
    | some _ => cases e2
    | none =>
      cases w' with
      | none => cases e3
      | some st =>
        obtain ⟨j, tj⟩ := st
        have ej : j = -1 := Option.some.inj e3
        subst ej
        refine tail_any (ops := [.str z t, .ref s4.heap.objs.size]) (typeIs_str _ _ _) F.slot_str_getitem.lookup ?_ (by with_unfolding_all rfl)
        refine wpAny_getItem_str_slice (l := none) (u := none) (st := some (-1, tj)) ⟨_, Heap.get?_push_size _ rfl, rfl, rfl⟩ rfl ?_
        refine post_val_or_str ⟨Nat.le_trans (Txt.sliceBy_le z _ _ (-1, tj) (show (-1 : Int) ≠ 0 by decide)) hz, fun t' c => ?_⟩
        exact ⟨.str (revS z), H4, I5.tok c, ⟨t', congrArg (fun y => Value.str y t') (rev_is z tj)⟩, q⟩
end
end R4
set_option Elab.async false
set_option linter.all false
set_option maxRecDepth 100000
set_option maxHeartbeats 1000000
/-! readings that know a bound B of the tokens given out: the list of texts whose tokens lie below B; x.replace(min(list), '') -/
namespace R5
open PySem PySem.Spec PyProof.Rows L2
structure EndsB where
  nx : Nat → L2.St → Hp → Prop
  rt : V → Hp → Prop
abbrev TSB := Nat → EndsB → L2.St → Hp → Prop
def SPB (X : Cx) (pins : List (Addr × Obj)) (D : EndsB) (f : Flow) (s' : Shared) : Prop :=
  match f with
  | .next => ∃ B σ' H', 1 ≤ B ∧ B ≤ s'.toks ∧ L2.Inv X pins σ' H' s' ∧ D.nx B σ' H'
  | .ret u => ∃ v σ' H', L2.Inv X pins σ' H' s' ∧ RelV v u ∧ D.rt v H'
  | _ => False
def PSB (X : Cx) (st : Stmt) (t : TSB) : Prop :=
  ∀ (pins : List (Addr × Obj)) (s : Shared) (σ : L2.St) (H : Hp) (B : Nat) (D : EndsB), 1 ≤ B → B ≤ s.toks → L2.Inv X pins σ H s → t B D σ H → wpAny (model X.prog X.w) X.A (exec st X.env) (SPB X pins D) X.xe s
def PSsB (X : Cx) (st : List Stmt) (t : TSB) : Prop :=
  ∀ (pins : List (Addr × Obj)) (s : Shared) (σ : L2.St) (H : Hp) (B : Nat) (D : EndsB), 1 ≤ B → B ≤ s.toks → L2.Inv X pins σ H s → t B D σ H → wpAny (model X.prog X.w) X.A (execs st X.env) (SPB X pins D) X.xe s
def PEB (X : Cx) (e : Expr) (t : Nat → TE) : Prop :=
  ∀ (pins : List (Addr × Obj)) (s : Shared) (σ : L2.St) (H : Hp) (B : Nat) (Q : VK), 1 ≤ B → B ≤ s.toks → L2.Inv X pins σ H s → t B σ H Q → wpAny (model X.prog X.w) X.A (eval e X.env) (EP X pins σ Q) X.xe s
section
variable {X : Cx} {st : Stmt} {rest : List Stmt} {t u : TSB}
def tLift (t : TS) : TSB := fun B D σ H => t ⟨D.nx B, D.rt, fun _ _ => False, fun _ _ => False⟩ σ H
theorem psb_of {t : TS} (h : PS X st t) : PSB X st (tLift t) := by
  intro pins s σ H B D h1 hB I q
  refine wpAny_mono (wpAny_toks_of hB (h.run pins s σ H _ I q)) (fun f s1 z => ?_) fun _ _ z => z.2
  obtain ⟨hk, z⟩ := z
  cases f with
  | next => obtain ⟨σ', H', I', q⟩ := z; exact ⟨B, σ', H', h1, hk, I', q⟩
  | ret v => exact z
  | brk => obtain ⟨_, _, _, q⟩ := z; exact q
  | cont => obtain ⟨_, _, _, q⟩ := z; exact q
def tSeqB (t u : TSB) : TSB := fun B D σ H => t B ⟨fun B' σ' H' => u B' D σ' H', D.rt⟩ σ H
theorem psb_cons (h1 : PSB X st t) (h2 : PSsB X rest u) : PSsB X (st :: rest) (tSeqB t u) := by
  intro pins s σ H B D hb hB I h
  refine wpAny_execs_cons (thn (h1 pins s σ H B _ hb hB I h) fun f s1 q => ?_)
  cases f with
  | next => obtain ⟨B', σ', H', hb', hB', I', q⟩ := q; exact h2 pins s1 σ' H' B' D hb' hB' I' q
  | ret v => exact q
  | brk => exact q
  | cont => exact q
def tNextB : TSB := fun B D σ H => D.nx B σ H
theorem psb_nil : PSsB X [] tNextB := fun pins s σ H B D hb hB I h => wpAny_execs_nil ⟨B, σ, H, hb, hB, I, h⟩
theorem psb_one (h1 : PSB X st t) : PSsB X [st] t := by
  intro pins s σ H B D hb hB I h
  refine wpAny_execs_cons (thn (h1 pins s σ H B D hb hB I h) fun f s1 q => ?_)
  cases f with
  | next => exact wpAny_execs_nil q
  | ret v => exact q
  | brk => exact q
  | cont => exact q
/-- the whole body, one token out when it begins -/
def tBody (t : TSB) : TS := fun D σ H => t 1 ⟨fun _ => D.nx, D.rt⟩ σ H
theorem psst_of (h : PSsB X rest t) : PSsT X rest (tBody t) := by
  intro pins s σ H D h0 I q
  refine thn (h pins s σ H 1 _ (Nat.le_refl _) h0 I q) fun f s1 z => ?_
  cases f with
  | next => obtain ⟨B, σ', H', _, _, I', q⟩ := z; exact ⟨σ', H', I', q⟩
  | ret v => exact z
  | brk => exact z.elim
  | cont => exact z.elim
def tIfB (c : TT) (t : TSB) : TSB := fun B D σ H => c σ H fun b H1 => if b = true then t B D σ H1 else D.nx B σ H1
theorem psb_if {c : Expr} {a : List Stmt} {tc : TT} {pos : Pos} (hc : PT X c tc) (ha : PSsB X a t) : PSB X (.If c a [] pos) (tIfB tc t) := by
  intro pins s σ H B D hb hB I h
  refine wpAny_If (wpAny_mono (wpAny_toks_of hB (hc.run pins s σ H _ I h)) (fun d s1 q => ?_) fun _ _ z => z.2)
  obtain ⟨hk, H1, I1, q1⟩ := q
  cases d with
  | true => exact ha pins s1 σ H1 B D hb hk I1 q1
  | false => exact wpAny_execs_nil ⟨B, σ, H1, hb, hk, I1, q1⟩
def tForB (wi : TI) (g : TG) (tb : TSB) : TSB := fun B D σ H => wi σ H fun J H1 => ∃ W : Nat → Nat → Nat → L2.St → Hp → Prop, (∃ m, W 0 m B σ H1) ∧ ∀ i m B σ H, W i m B σ H → (J.stop i H ∧ D.nx B σ H) ∨
  (J.go i H ∧ ∃ N : Nat → L2.St → Hp → Prop, (∀ B' σ' H', N B' σ' H' → ∃ m', m' < m ∧ W (i + 1) m' B' σ' H') ∧ ∀ x H', J.yld i H x H' → g x σ H' fun σ2 H2 => tb B ⟨N, D.rt⟩ σ2 H2)
theorem psb_for {tg iter : Expr} {body : List Stmt} {wi : TI} {g : TG} {tb : TSB} {pos : Pos} (hp : PassesOwn (model X.prog X.w) X.A X.env X.xe) (hc : X.calm = true) (hi : PI X tg iter wi) (hg : PG X tg g) (hb : PSsB X body tb)
    (hs : ∀ x, foldedSetIterable iter X.env x = pure x := by intro _; rfl) : PSB X (.For tg iter body [] pos) (tForB wi g tb) := by
  intro pins s σ H B D h1 hB I h
  refine wpAny_For (wpAny_mono (wpAny_toks_of hB (hi.run pins s σ H _ I h)) (fun v s1 z => ?_) fun _ _ z => z.2) hs
  obtain ⟨hk1, z⟩ := z
  refine wpAny_mono (wpAny_toks_of hk1 z) (fun itv s2 z2 => ?_) fun _ _ z => z.2
  obtain ⟨hk2, it, fp, tn, J, H2, e, I2, T, st2, f2, W, ⟨m0, w0⟩, turn⟩ := z2
  subst e
  have stat : ∀ {H' : Hp}, (∀ b ∈ fp, H' b = none) → ∀ b ∈ fp, FpOk X pins H' b := fun hn b hb => ⟨hn b hb, (f2 b hb).2⟩
  refine codeAny_forLoop_any (fun n s' => ∃ i B σ' H', 1 ≤ B ∧ B ≤ s'.toks ∧ L2.Inv X pins σ' H' s' ∧ tn i s'.heap ∧ (∀ b ∈ fp, H' b = none) ∧ W i n B σ' H') ?_ m0 ⟨0, B, σ, H2, h1, hk2, I2, st2, fun b hb => (f2 b hb).1, w0⟩
  rintro n s3 ⟨i, B3, σ3, H3, hb3, hk3, I3, st3, fr3, w3⟩
  rcases turn i n B3 σ3 H3 w3 with ⟨stop, qn⟩ | ⟨go, N, hN, step⟩
  · refine wpAny_passesOwn hp (wpAny_mono (wpAny_toks_of hk3 (T.done X rfl rfl rfl hc i pins s3 σ3 H3 X.xe I3 (stat fr3) st3 stop)) (fun r s4 z => ?_) fun _ _ z => z.2)
    obtain ⟨hk4, hr, I4⟩ := z
    subst hr
    exact wpAny_execs_nil ⟨B3, σ3, H3, hb3, hk4, I4, qn⟩
  · refine wpAny_passesOwn hp (wpAny_mono (wpAny_toks_of hk3 (T.item X rfl rfl rfl hc i pins s3 σ3 H3 X.xe I3 (stat fr3) st3 go)) (fun r s4 z => ?_) fun _ _ z => z.2)
    obtain ⟨hk4, u, hr, h4⟩ := z
    subst hr
    refine wpAny_passesOwn hp (wpAny_mono (wpAny_toks_of hk4 h4) (fun _ s5 z => ?_) fun _ _ z => z.2)
    obtain ⟨hk5, x, H5, I5, r5, y5, st5, fr5⟩ := z
    have I5' := I5.pinned (stat fr5) (T.obj _ _ st5)
    refine wpAny_passesOwn hp (wpAny_mono (wpAny_toks_of hk5 (hg.run _ s5 σ3 H5 x u _ I5' r5 (step x H5 y5))) (fun _ s6 z => ?_) fun _ _ z => z.2)
    obtain ⟨hk6, σ6, H6, I6, q6⟩ := z
    refine wpAny_passesOwn hp (thn (hb _ s6 σ6 H6 B3 _ hb3 hk6 I6 q6) fun f s7 q7 => ?_)
    cases f with
    | next =>
      obtain ⟨B7, σ7, H7, hb7, hk7, I7, n7⟩ := q7
      obtain ⟨m', hm, w7⟩ := hN B7 σ7 H7 n7
      refine ⟨m', hm, i + 1, B7, σ7, H7, hb7, hk7, I7.unpinned, T.keep _ _ _ st5 fun b hb o e => (I7.pin (b, o) (List.mem_append_right _ (List.mem_append_right _ (mem_pinsAt hb e)))).1, fun b hb => ?_, w7⟩
      obtain ⟨o, e, d⟩ := T.obj _ _ st5 b hb
      exact (I7.pin (b, o) (List.mem_append_right _ (List.mem_append_right _ (mem_pinsAt hb e)))).2.1
    | ret v => obtain ⟨x7, σ7, H7, I7, r7, q7⟩ := q7; exact ⟨x7, σ7, H7, I7.unpinned, r7, q7⟩
    | cont => exact q7.elim
    | brk => exact q7.elim
end

/-! ### the list of texts with known tokens -/
def TokOk (B : Nat) (v : Value) : Prop := ∃ x t, v = Value.str x t ∧ t ≠ 0 ∧ t < B
def FreeS (h : Heap) (p : Addr) (B : Nat) (xs : List Str) : Prop := xs.length ≤ 1000 ∧ ∃ (its : List Value) (n : Nat), Vals (xs.map V.str) its ∧ (∀ v ∈ its, TokOk B v) ∧ h.get? p = some { cls := .type "list", data := .seq its.toArray n }
def FreeO (p : Addr) (B : Nat) (xs : List Str) : HO := .ext fun h => FreeS h p B xs
section
variable {X : Cx} {pins : List (Addr × Obj)} {σ : L2.St} {H : Hp} {s : Shared} {p : Addr} {B : Nat} {xs : List Str}
theorem free_new {P : Program} {w : World} {h : Heap} (R : FreeS h p B xs) : ObjOk P w H h p (FreeO p B xs) := by
  refine ⟨R, ?_, fun h1 h2 q k => ?_⟩
  · obtain ⟨_, its, n, _, _, e⟩ := R
    exact ⟨_, e⟩
  · obtain ⟨l, its, n, a, b, e⟩ := q
    exact ⟨l, its, n, a, b, k _ e⟩
theorem free_get (I : L2.Inv X pins σ H s) (h : H p = some (FreeO p B xs)) : FreeS s.heap p B xs := (I.hok p _ h).1
/-- name = [] -/
def tFree0 (i : Nat) : TSB := fun B D σ H => ∀ p, H p = none → D.nx B (σ.set i (some (.ref p))) (upd H p (FreeO p 1 []))
theorem psb_free0 {i : Nat} {x : Str} {pos' lpos pos : Pos} (hN : X.N.Nodup) (hi : X.N[i]? = some x) (hx : Loc X.env.scope x) (hs : swapsWith (.List [] lpos) (some (.Name x pos')) pos.line X.env = pure false := by rfl) (hf : X.fn x = true ∨ X.env.scope.names.lookup x = some .local := by first | exact .inl rfl | exact .inr rfl | assumption) :
    PSB X (.Assign [.Name x pos'] (.List [] lpos) pos) (tFree0 i) := by
  intro pins s σ H B D h1 hB I h
  have base := (ps_set (X := X) (i := i) (pos := pos) (pos' := pos') hN hi hx (pe_lst (pos := lpos) pa_nil) hs hf).run pins s σ H
    ⟨fun σ' H' => ∃ p, H p = none ∧ σ' = σ.set i (some (.ref p)) ∧ H' = upd H p (.lst []), fun _ _ => False, fun _ _ => False, fun _ _ => False⟩ I ⟨Nat.zero_le _, fun p hp => ⟨p, hp, rfl, rfl⟩⟩
  refine wpAny_mono (wpAny_toks_of hB base) (fun f s1 z => ?_) fun _ _ z => z.2
  obtain ⟨hk, z⟩ := z
  cases f with
  | next =>
    obtain ⟨σ', H', I', p, hp, rfl, rfl⟩ := z
    obtain ⟨its, n, r, e, _⟩ := I'.lst upd_same
    cases r
    have I2 : L2.Inv X pins (σ.set i (some (.ref p))) (upd (upd H p (.lst [])) p (FreeO p 1 [])) s1 := by
      have w0 := I'.write (x := p) (e := p) (o := FreeO p 1 []) (h' := s1.heap) (t' := s1.toks) (by rw [upd_same]; trivial) (.inl rfl) (fun b u _ q => q) ⟨_, e⟩
        (free_new ⟨Nat.zero_le _, [], n, .nil, fun v hv => by simp at hv, e⟩)
      exact w0
    rw [upd_upd] at I2
    exact ⟨B, _, _, h1, hk, I2, h p hp⟩
  | ret v => obtain ⟨_, _, _, _, _, q⟩ := z; exact q.elim
  | brk => obtain ⟨_, _, _, q⟩ := z; exact q
  | cont => obtain ⟨_, _, _, q⟩ := z; exact q
/-- name.append(text[place]) -/
def tFreeApp (jf jr ja : Nat) : TSB := fun B D σ H => ∃ (p : Addr) (B0 : Nat) (xs : List Str) (z : Str) (i c : Nat), σ[jf]? = some (some (.ref p)) ∧ σ[jr]? = some (some (.str z)) ∧ σ[ja]? = some (some (.int (i : Int))) ∧
  H p = some (FreeO p B0 xs) ∧ B0 ≤ B ∧ xs.length < 1000 ∧ i < 2 ^ 62 ∧ i < z.length ∧ z.cps[i]? = some c ∧ ∀ B', B ≤ B' → D.nx B' σ (upd H p (FreeO p B' (xs ++ [⟨#[c]⟩])))
theorem psb_freeApp {jf jr ja : Nat} {fx rx ax : Str} {p1 p2 p3 q apos cpos pos : Pos} (hNf : X.N[jf]? = some fx) (hvf : Vis X.env.scope fx) (hNr : X.N[jr]? = some rx) (hvr : Vis X.env.scope rx) (hNa : X.N[ja]? = some ax) (hva : Vis X.env.scope ax)
    (hdf : (fx == ("__debug__" : Str)) = false := by decide) (hcf : (fx == ("__classdict__" : Str)) = false := by decide) (hdr : (rx == ("__debug__" : Str)) = false := by decide) (hcr : (rx == ("__classdict__" : Str)) = false := by decide)
    (hda : (ax == ("__debug__" : Str)) = false := by decide) (hca : (ax == ("__classdict__" : Str)) = false := by decide)
    (hbase : attributeBase (.Name fx p1) "append" X.env (eval (.Name fx p1) X.env) = eval (.Name fx p1) X.env := by rfl)
    (hfew : ((backTo cpos (starEach [.Subscript (.Name rx p2) (.Name ax p3) q] X.env)).all (fun x => !x.1) && (backToKw cpos (keywordEach [] X.env)).all (fun x => x.1.isSome)
      && decide (([Expr.Subscript (.Name rx p2) (.Name ax p3) q] : List Expr).length + ([] : List Keyword).length + (if ([] : List Keyword).isEmpty then 0 else 1) < 30)) = true := by rfl)
    (hline : (apos.endLine == cpos.line) = true := by rfl)
    (hst : starEach [.Subscript (.Name rx p2) (.Name ax p3) q] X.env = (false, eval (.Subscript (.Name rx p2) (.Name ax p3) q) X.env) :: starEach [] X.env := by rfl)
    (hsw : swapsWith (.Call (.Attribute (.Name fx p1) "append" apos) [.Subscript (.Name rx p2) (.Name ax p3) q] [] cpos) none pos.line X.env = pure false := by rfl) :
    PSB X (.Expr (.Call (.Attribute (.Name fx p1) "append" apos) [.Subscript (.Name rx p2) (.Name ax p3) q] [] cpos) pos) (tFreeApp jf jr ja) := by
  intro pins s σ H B D h1 hB I h
  obtain ⟨p, B0, xs, z, i, c, ef, er, ea, hH, hB0, hxs, hi62, hiz, hc, hD⟩ := h
  obtain ⟨hl0, its, n, rv, tk, ho⟩ := free_get I hH
  refine wpAny_Expr ?_ I.quiet hsw
  refine wpAny_Call_method_late hbase hfew hline rfl (raw_name hNf hvf I ef (fun v r => ?_) hdf hcf)
  have e : v = Value.ref p := r
  subst e
  refine ⟨"list", _, PySem.F.plainAttrs_list, PySem.F.slot_list_append, PySem.F.type_list_append, ⟨_, ho, rfl⟩, (fun b eb => ?_), ?_⟩
  · have eb' : p = b := by injection eb
    subst eb'
    exact ⟨_, ho, rfl⟩
  · rw [hst]
    refine Calls.callWith_builtin rfl (Calls.evalArgs_plain (Calls.spliced_cons ?_))
    refine Subscript_ (raw_name hNr hvr I er (fun v r => ?_) hdr hcr)
    obtain ⟨tz, e⟩ := r
    subst e
    refine raw_name hNa hva I ea (fun v r => ?_) hda hca
    obtain ⟨ti, e⟩ := r
    subst e
    have e1 : seqIndex? (i : Int) z.length = some i := by
      have := PySem.StrLaws.seqIndex_nonneg (i := (i : Int)) (n := z.length) (by omega) (by omega)
      simpa using this
    refine tail_any (typeIs_str s z tz) slot_str_getitem.lookup (getItem_str (c := c) (by
      have e1 : decide ((i : Int) < -(2 ^ 63 : Int)) = false := decide_eq_false (by omega)
      have e2 : decide ((i : Int) ≥ 2 ^ 63) = false := decide_eq_false (by omega)
      rw [e1, e2] <;> rfl) (by rw [e1]; exact hc) ?_) rfl
    refine Calls.spliced_nil ?_
    have I1 : L2.Inv X pins σ H { s with toks := s.toks + 1 } := I.tok _
    have hil : its.length = xs.length := by
      have := rv.length
      rw [List.length_map] at this
      exact this.symm
    refine call_meets F.slot_list_append ⟨_, ho, rfl⟩ F.entry_list_append (F.args_list_append_2 _ _) (PySem.list_append p its.toArray n (Value.str ⟨#[c]⟩ s.toks) (by rw [List.size_toArray, hil, sizeLine_eq]; omega)) ⟨ho, ?_⟩
    have hg2 := PySem.IsL.update ho (fun x_1 => x_1.push (Value.str ⟨#[c]⟩ s.toks))
    rw [show its.toArray.push (Value.str ⟨#[c]⟩ s.toks) = (its ++ [Value.str ⟨#[c]⟩ s.toks]).toArray by simp] at hg2
    have I2 : L2.Inv X pins σ (upd H p (FreeO p (s.toks + 1) (xs ++ [⟨#[c]⟩]))) { s with heap := s.heap.update p (Obj.mapSeq fun x_1 => x_1.push (Value.str ⟨#[c]⟩ s.toks)), toks := s.toks + 1 } := by
      refine I.write (x := p) (e := p) (by rw [hH]; trivial) (.inl rfl) (fun b u hb q => ?_) ⟨_, hg2⟩ (free_new ⟨by rw [List.length_append]; simp; omega, its ++ [Value.str ⟨#[c]⟩ s.toks], _, ?_, fun v hv => ?_, hg2⟩)
      · exact (Heap.get?_update_other _ _ (Ne.symm hb)).trans q
      · rw [List.map_append]
        exact rv.append (.cons ⟨_, rfl⟩ .nil)
      · rcases List.mem_append.mp hv with hv | hv
        · obtain ⟨x, t, e, h0, ht⟩ := tk v hv
          exact ⟨x, t, e, h0, Nat.lt_succ_of_lt (Nat.lt_of_lt_of_le ht (Nat.le_trans hB0 hB))⟩
        · have e := List.mem_singleton.mp hv
          exact ⟨_, _, e, by show s.toks ≠ 0; omega, by show s.toks < s.toks + 1; omega⟩
    exact ⟨s.toks + 1, σ, _, Nat.le_add_left _ _, Nat.le_refl _, I2, hD _ (by omega)⟩
/-- min(free) -/
theorem cr_minF (hc : X.calm = true) : CallR X (.builtin "min") (fun vs H Q => ∃ (a : Addr) (B : Nat) (xs : List Str), vs = [V.ref a] ∧ H a = some (FreeO a B xs) ∧ 0 < xs.length ∧ Q (.str (R2.stAt xs (R2.bestS xs))) H) := by
  intro pins s σ H vs us Q I r h
  obtain ⟨a, B, xs, rfl, hs, hne, q⟩ := h
  obtain ⟨hl0, its, n, rv, tk, ho⟩ := free_get I hs
  rw [Vals.ref1 r]
  refine R2.min_strs (I.ok.hd hc) ⟨_, ho, rfl, n, rfl⟩ rv.strs hne fun v h' tk hv hk => ?_
  obtain ⟨t, rfl, _⟩ := R2.strs_get rv.strs hv
  exact ⟨.str _, H, I.kept hk, ⟨_, rfl⟩, q⟩
/-- text.replace(min(free), '') -/
def tReplMin (jr jf : Nat) : Nat → TE := fun B σ H Q => ∃ (z : Str) (p : Addr) (B0 : Nat) (xs : List Str), σ[jr]? = some (some (.str z)) ∧ σ[jf]? = some (some (.ref p)) ∧ H p = some (FreeO p B0 xs) ∧ B0 ≤ B ∧ 0 < xs.length ∧
  (R2.stAt xs (R2.bestS xs) == (⟨#[]⟩ : Str)) = false ∧ z.length ≤ 1000 ∧ Q (.str (Txt.replace z (R2.stAt xs (R2.bestS xs)) ⟨#[]⟩)) H
theorem peb_replMin {jr jf k : Nat} {rx fx es : Str} {p1 p2 p3 c0 mp apos pos : Pos} (hc : X.calm = true) (hes : es = ⟨#[]⟩) (hNf : X.N[jf]? = some fx) (hvf : Vis X.env.scope fx) (hNr : X.N[jr]? = some rx) (hvr : Vis X.env.scope rx) (hg : Gl X "min") (hm : X.mg "min" = none)
    (hdf : (fx == ("__debug__" : Str)) = false := by decide) (hcf : (fx == ("__classdict__" : Str)) = false := by decide) (hdr : (rx == ("__debug__" : Str)) = false := by decide) (hcr : (rx == ("__classdict__" : Str)) = false := by decide)
    (hst : starEach [.Call (.Name "min" p2) [.Name fx p3] [] mp, .Constant (.str es) k c0] X.env = [(false, eval (.Call (.Name "min" p2) [.Name fx p3] [] mp) X.env), (false, eval (.Constant (.str es) k c0) X.env)] := by rfl)
    (hst1 : starEach [.Name fx p3] X.env = [(false, eval (.Name fx p3) X.env)] := by rfl)
    (hbase : attributeBase (.Name rx p1) "replace" X.env (eval (.Name rx p1) X.env) = eval (.Name rx p1) X.env := by rfl) (hline : (apos.endLine == pos.line) = true := by rfl) :
    PEB X (.Call (.Attribute (.Name rx p1) "replace" apos) [.Call (.Name "min" p2) [.Name fx p3] [] mp, .Constant (.str es) k c0] [] pos) (tReplMin jr jf) := by
  intro pins s σ H B Q h1 hB I h
  obtain ⟨z, p, B0, xs, er, ef, hH, hB0, hne, hmt, hz, q⟩ := h
  obtain ⟨hl0, its, n, rv, tk, ho⟩ := free_get I hH
  subst hes
  refine PySem.Call_method2 hbase hst hline (raw_name hNr hvr I er (fun v r => ?_) hdr hcr)
  obtain ⟨tz, e⟩ := r
  subst e
  refine ⟨"str", _, PySem.F.plainAttrs_str, PySem.F.slot_str_replace, PySem.F.type_str_replace, typeIs_str _ _ _, (fun _ e => nomatch e), Calls.callWith_builtin rfl (Calls.evalArgs_plain (Calls.spliced_cons ?_))⟩
  refine wpAny_mono (wpAny_toks_of hB (Q := fun v s1 => ∃ t, v = Value.str (R2.stAt xs (R2.bestS xs)) t ∧ t ≠ 0 ∧ t < B ∧ L2.Inv X pins σ H s1) (E := X.xe) ?_) (fun v s1 zz => ?_) fun _ _ zz => zz.2
  · refine Call_ (ld_blt I hg hm boot_min ?_)
    rw [hst1]
    refine callWith_builtin1 (raw_name hNf hvf I ef (fun v r => ?_) hdf hcf)
    have e : v = Value.ref p := r
    subst e
    refine R2.min_strs (I.ok.hd hc) ⟨_, ho, rfl, n, rfl⟩ rv.strs hne fun v h' tk' hv hk => ?_
    obtain ⟨t, rfl, _⟩ := R2.strs_get rv.strs hv
    obtain ⟨x, t', e, h0, ht⟩ := tk _ (List.mem_of_getElem? hv)
    injection e with e1 e2
    subst e2
    exact ⟨t, rfl, h0, Nat.lt_of_lt_of_le ht hB0, I.kept hk⟩
  · obtain ⟨hk, t, rfl, h0, ht, I1⟩ := zz
    refine Calls.spliced_cons (Calls.Constant_str (Calls.spliced_nil ?_))
    exact PySem.SC.replace h0 (by have hk' : B ≤ s1.toks := hk; show s1.toks ≠ 0; omega) (Nat.ne_of_lt (Nat.lt_of_lt_of_le ht hk)) hmt (Nat.le_trans (show z.length + (z.length + 1) * 0 ≤ 1000 by omega) (by decide)) fun t' k => ⟨.str _, H, I1.tok k, ⟨t', rfl⟩, q⟩
/-- a, b = x, y, the second one's reading with the bound -/
def tParB (i j : Nat) (ta : TE) (tb : Nat → TE) : TSB := fun B D σ H => ta σ H fun v H1 => tb B σ H1 fun w H2 => D.nx B ((σ.set i (some v)).set j (some w)) H2
theorem psb_par {i j : Nat} {x y : Str} {a b : Expr} {ta : TE} {tb : Nat → TE} {px py pt pos : Pos} {kt k2 pt2} (hc : X.calm = true) (hN : X.N.Nodup) (hi : X.N[i]? = some x) (hj : X.N[j]? = some y) (hij : i ≠ j)
    (hx : X.env.scope.names.lookup x = some .local) (hy : X.env.scope.names.lookup y = some .local) (ha : PE X a ta) (hb : PEB X b tb)
    (hw : swappedStores [.Tuple [.Name x px, .Name y py] kt pt] (.Tuple [a, b] k2 pt2) X.env = pure (some [x, y]))
    (hs : swapsWithSole [.Tuple [.Name x px, .Name y py] kt pt] (.Tuple [a, b] k2 pt2) pos.line X.env = pure false := by rfl)
    (hst : starEach [a, b] X.env = [(false, eval a X.env), (false, eval b X.env)] := by rfl) :
    PSB X (.Assign [.Tuple [.Name x px, .Name y py] kt pt] (.Tuple [a, b] k2 pt2) pos) (tParB i j ta tb) := by
  intro pins s σ H B D h1 hB I h
  rw [exec_Assign_arm]
  refine wpAny_bind (wpAny_standAt ?_)
  rw [hs]
  refine wpAny_bind (wpAny_pure ?_)
  rw [if_neg (by decide)]
  refine wpAny_bind (Tuple_ ?_)
  rw [hst]
  refine Calls.spliced_cons (wpAny_mono (wpAny_toks_of hB (ha.run pins s σ H _ I h)) (fun u1 s1 zz => ?_) fun _ _ zz => zz.2)
  obtain ⟨hk1, v, H1, I1, rv, q1⟩ := zz
  refine Calls.spliced_cons (wpAny_mono (wpAny_toks_of hk1 (hb pins s1 σ H1 B _ h1 hk1 I1 q1)) (fun u2 s2 zz => ?_) fun _ _ zz => zz.2)
  obtain ⟨hk2, w, H2, I2, rw', q2⟩ := zz
  refine Calls.spliced_nil ?_
  refine wpAny_newObj_type ?_ (by show 2 ≤ sizeLine; decide)
  have I3 : L2.Inv X pins σ H2 { s2 with heap := s2.heap.push { cls := .type "tuple", data := .seq [u1, u2].toArray } } := I2.kept (t' := s2.toks) fun b o e => Heap.get?_push_of_some _ e
  rw [hw]
  refine wpAny_bind (wpAny_pure ?_)
  show wpAny (model X.prog X.w) X.A (do rule "assign.swapped-stores"; let items ← unpackItems (.ref s2.heap.objs.size) 2 none; assignInOrder [fun v => bindName X.env y v, fun v => bindName X.env x v] items.reverse; pure Flow.next) _ _ _
  refine wpAny_mono (wpAny_toks_of (n := B) (Q := fun f s' => f = .next ∧ ∃ H', L2.Inv X pins ((σ.set i (some v)).set j (some w)) H' s' ∧ D.nx B ((σ.set i (some v)).set j (some w)) H') (E := X.xe) hk2 ?_) (fun f s3 zz => ?_) fun _ _ zz => zz.2
  · refine wpAny_bind (wpAny_rule (wpAny_bind (unpackItems_tuple (items := #[u1, u2]) (I.ok.hd hc) (IsTup.new s2.heap _) fun h' hx' => ?_)))
    have I4 := I3.kept (h' := h') (t' := s2.toks) fun b o e => hx' b o (Nat.ne_of_lt (Heap.lt_size e)) e
    show wpAny _ _ (assignInOrder [fun v => bindName X.env y v, fun v => bindName X.env x v] [u2, u1] >>= fun _ => pure Flow.next) _ _ _
    refine wpAny_bind (assignInOrder_cons (wpAny_bindName (store_ok I4 hN hj (.inl hy) rw' (fun s4 I5 => ?_) (.inr hy))))
    refine assignInOrder_cons (wpAny_bindName (store_ok I5 hN hi (.inl hx) rv (fun s5 I6 => assignInOrder_nil (wpAny_pure ?_)) (.inr hx)))
    rw [List.set_comm _ _ (Ne.symm hij)] at I6
    exact ⟨rfl, H2, I6, q2⟩
  · obtain ⟨hk3, rfl, H', I', q'⟩ := zz
    exact ⟨B, _, H', h1, hk3, I', q'⟩
end
end R5
set_option Elab.async false
set_option linter.all false
set_option maxRecDepth 100000
set_option maxHeartbeats 1000000
/-! a, b = x, y, not swapped (a name of the two is a cell), with the bound of tokens; a first statement of that form whose second part is a text -/
namespace R5
open PySem PySem.Spec PyProof.Rows L2
section
variable {X : Cx} {pins : List (Addr × Obj)}
def tParC (i j : Nat) (ta : TE) (tb : Nat → TE) : TSB := fun B D σ H => ta σ H fun v H1 => tb B σ H1 fun w H2 => D.nx B ((σ.set i (some v)).set j (some w)) H2
theorem par_tail {i j : Nat} {x y : Str} {v w : V} {u1 u2 : Value} {px py pt : Pos} {kt} {s2 : Shared} {σ : L2.St} {H2 : Hp} {B : Nat} {nx : L2.St → Hp → Prop} (hc : X.calm = true) (hN : X.N.Nodup) (hi : X.N[i]? = some x) (hj : X.N[j]? = some y)
    (hx : Loc X.env.scope x) (hy : Loc X.env.scope y) (hfx : X.fn x = true ∨ X.env.scope.names.lookup x = some .local) (hfy : X.fn y = true ∨ X.env.scope.names.lookup y = some .local)
    (h1 : (assignEach [.Tuple [.Name x px, .Name y py] kt pt] X.env).map (·.2) = [assign (.Tuple [.Name x px, .Name y py] kt pt) X.env])
    (h2 : (assignEach [.Name x px, .Name y py] X.env).map (·.2) = [assign (.Name x px) X.env, assign (.Name y py) X.env])
    (hn : (assignEach [.Name x px, .Name y py] X.env).length = 2) (hst : (assignEach [.Name x px, .Name y py] X.env).findIdx? (·.1) = none)
    (hk : B ≤ s2.toks) (I2 : L2.Inv X pins σ H2 s2) (rv : RelV v u1) (rw' : RelV w u2) (q : nx ((σ.set i (some v)).set j (some w)) H2) :
    wpAny (model X.prog X.w) X.A (assignAll (.ref s2.heap.objs.size) ((assignEach [.Tuple [.Name x px, .Name y py] kt pt] X.env).map (·.2))) (fun _ s' => B ≤ s'.toks ∧ ∃ H', L2.Inv X pins ((σ.set i (some v)).set j (some w)) H' s' ∧ nx ((σ.set i (some v)).set j (some w)) H') X.xe
      { s2 with heap := s2.heap.push { cls := .type "tuple", data := .seq [u1, u2].toArray } } := by
  have I3 : L2.Inv X pins σ H2 { s2 with heap := s2.heap.push { cls := .type "tuple", data := .seq [u1, u2].toArray } } := I2.kept (t' := s2.toks) fun b o e => Heap.get?_push_of_some _ e
  rw [h1]
  refine wpAny_mono (wpAny_toks_of (n := B) (Q := fun _ s' => ∃ H', L2.Inv X pins ((σ.set i (some v)).set j (some w)) H' s' ∧ nx ((σ.set i (some v)).set j (some w)) H') (E := X.xe) hk ?_) (fun _ s3 zz => zz) fun _ _ zz => zz.2
  show wpAny _ _ (assign (.Tuple [.Name x px, .Name y py] kt pt) X.env (.ref s2.heap.objs.size)) _ _ _
  refine assign_Tuple_tuple (items := [u1, u2].toArray) (I2.ok.hd hc) (IsTup.new s2.heap _) (by rw [hn]; rfl) hst fun h' hx' => ?_
  have I4 := I3.kept (h' := h') (t' := s2.toks) fun b o e => hx' b o (Nat.ne_of_lt (Heap.lt_size e)) e
  rw [h2]
  refine assignInOrder_cons (wpAny_assign_Name (store_ok I4 hN hi hx rv (fun s4 I5 => ?_) hfx))
  exact assignInOrder_cons (wpAny_assign_Name (store_ok I5 hN hj hy rw' (fun s5 I6 => assignInOrder_nil ⟨H2, I6, q⟩) hfy))
theorem psb_parC {i j : Nat} {x y : Str} {a b : Expr} {ta : TE} {tb : Nat → TE} {px py pt pos : Pos} {kt k2 pt2} (hc : X.calm = true) (hN : X.N.Nodup) (hi : X.N[i]? = some x) (hj : X.N[j]? = some y)
    (hx : Loc X.env.scope x) (hy : Loc X.env.scope y) (hfx : X.fn x = true ∨ X.env.scope.names.lookup x = some .local) (hfy : X.fn y = true ∨ X.env.scope.names.lookup y = some .local) (ha : PE X a ta) (hb : PEB X b tb)
    (hw : swappedStores [.Tuple [.Name x px, .Name y py] kt pt] (.Tuple [a, b] k2 pt2) X.env = pure none := by rfl)
    (hs : swapsWithSole [.Tuple [.Name x px, .Name y py] kt pt] (.Tuple [a, b] k2 pt2) pos.line X.env = pure false := by rfl)
    (hst : starEach [a, b] X.env = [(false, eval a X.env), (false, eval b X.env)] := by rfl)
    (h1 : (assignEach [.Tuple [.Name x px, .Name y py] kt pt] X.env).map (·.2) = [assign (.Tuple [.Name x px, .Name y py] kt pt) X.env] := by rfl)
    (h2 : (assignEach [.Name x px, .Name y py] X.env).map (·.2) = [assign (.Name x px) X.env, assign (.Name y py) X.env] := by rfl)
    (hn : (assignEach [.Name x px, .Name y py] X.env).length = 2 := by rfl) (hf : (assignEach [.Name x px, .Name y py] X.env).findIdx? (·.1) = none := by rfl) :
    PSB X (.Assign [.Tuple [.Name x px, .Name y py] kt pt] (.Tuple [a, b] k2 pt2) pos) (tParC i j ta tb) := by
  intro pins s σ H B D hb1 hB I h
  refine wpAny_Assign_stores ?_ hs hw
  refine Tuple_ ?_
  rw [hst]
  refine Calls.spliced_cons (wpAny_mono (wpAny_toks_of hB (ha.run pins s σ H _ I h)) (fun u1 s1 zz => ?_) fun _ _ zz => zz.2)
  obtain ⟨hk1, v, H1, I1, rv, q1⟩ := zz
  refine Calls.spliced_cons (wpAny_mono (wpAny_toks_of hk1 (hb pins s1 σ H1 B _ hb1 hk1 I1 q1)) (fun u2 s2 zz => ?_) fun _ _ zz => zz.2)
  obtain ⟨hk2, w, H2, I2, rw', q2⟩ := zz
  refine Calls.spliced_nil ?_
  refine wpAny_newObj_type ?_ (by show 2 ≤ sizeLine; decide)
  refine wpAny_mono (par_tail (nx := fun σ' H' => D.nx B σ' H') hc hN hi hj hx hy hfx hfy h1 h2 hn hf hk2 I2 rv rw' q2) (fun _ s3 zz => ?_) fun _ _ zz => zz
  obtain ⟨hk3, H', I', q'⟩ := zz
  exact ⟨B, _, H', hb1, hk3, I', q'⟩
/-- the first statement of a body: a, b = x, 'text'; behind it a token is out -/
def tFirst (i j : Nat) (ta : TE) (x : Str) (u : TSB) : TS := fun D σ H => ta σ H fun v H1 => u 1 ⟨fun _ => D.nx, D.rt⟩ ((σ.set i (some v)).set j (some (.str x))) H1
theorem pss_first {i j : Nat} {x y z : Str} {a : Expr} {ta : TE} {u : TSB} {rest : List Stmt} {px py pt pos cp : Pos} {kt k2 pt2 ck} (hc : X.calm = true) (hN : X.N.Nodup) (hi : X.N[i]? = some x) (hj : X.N[j]? = some y)
    (hx : Loc X.env.scope x) (hy : Loc X.env.scope y) (hfx : X.fn x = true ∨ X.env.scope.names.lookup x = some .local) (hfy : X.fn y = true ∨ X.env.scope.names.lookup y = some .local) (ha : PE X a ta) (hr : PSsB X rest u)
    (hw : swappedStores [.Tuple [.Name x px, .Name y py] kt pt] (.Tuple [a, .Constant (.str z) ck cp] k2 pt2) X.env = pure none := by rfl)
    (hs : swapsWithSole [.Tuple [.Name x px, .Name y py] kt pt] (.Tuple [a, .Constant (.str z) ck cp] k2 pt2) pos.line X.env = pure false := by rfl)
    (hst : starEach [a, .Constant (.str z) ck cp] X.env = [(false, eval a X.env), (false, eval (.Constant (.str z) ck cp) X.env)] := by rfl)
    (h1 : (assignEach [.Tuple [.Name x px, .Name y py] kt pt] X.env).map (·.2) = [assign (.Tuple [.Name x px, .Name y py] kt pt) X.env] := by rfl)
    (h2 : (assignEach [.Name x px, .Name y py] X.env).map (·.2) = [assign (.Name x px) X.env, assign (.Name y py) X.env] := by rfl)
    (hn : (assignEach [.Name x px, .Name y py] X.env).length = 2 := by rfl) (hf : (assignEach [.Name x px, .Name y py] X.env).findIdx? (·.1) = none := by rfl) :
    PSs X (.Assign [.Tuple [.Name x px, .Name y py] kt pt] (.Tuple [a, .Constant (.str z) ck cp] k2 pt2) pos :: rest) (tFirst i j ta z u) := by
  refine ⟨fun pins s σ H D I h => ?_⟩
  refine wpAny_execs_cons (thn (Q := fun f s' => f = .next ∧ 1 ≤ s'.toks ∧ ∃ σ' H', L2.Inv X pins σ' H' s' ∧ u 1 ⟨fun _ => D.nx, D.rt⟩ σ' H') ?_ fun f s1 q => ?_)
  · refine wpAny_Assign_stores ?_ hs hw
    refine Tuple_ ?_
    rw [hst]
    refine Calls.spliced_cons (thn (ha.run pins s σ H _ I h) fun u1 s1 zz => ?_)
    obtain ⟨v, H1, I1, rv, q1⟩ := zz
    refine Calls.spliced_cons (Calls.Constant_str (k := ck) (pos := cp) ?_)
    refine Calls.spliced_nil ?_
    refine wpAny_newObj_type ?_ (by show 2 ≤ sizeLine; decide)
    have I2 : L2.Inv X pins σ H1 { s1 with toks := s1.toks + 1 } := I1.tok _
    refine wpAny_mono (par_tail (B := 1) (v := v) (w := V.str z) (s2 := { s1 with toks := s1.toks + 1 }) (nx := fun σ' H' => u 1 ⟨fun _ => D.nx, D.rt⟩ σ' H') hc hN hi hj hx hy hfx hfy h1 h2 hn hf (Nat.le_add_left 1 _) I2 rv ⟨_, rfl⟩ q1) (fun _ s3 zz => ?_) fun _ _ zz => zz
    obtain ⟨hk3, H', I', q'⟩ := zz
    exact ⟨rfl, hk3, _, H', I', q'⟩
  · obtain ⟨rfl, hk, σ', H', I', q⟩ := q
    refine thn (hr pins s1 σ' H' 1 _ (Nat.le_refl _) hk I' q) fun f s2 z => ?_
    cases f with
    | next => obtain ⟨B, σ', H', _, _, I', q⟩ := z; exact ⟨σ', H', I', q⟩
    | ret v => exact z
    | brk => exact z.elim
    | cont => exact z.elim
end
end R5
set_option Elab.async false
set_option linter.all false
set_option maxRecDepth 100000
/-! what a reading gives, told by a relation of value and plain thing that outlives later heaps -/
namespace F1
open PySem L2 Evl
abbrev Rl (β : Type) := Hp → V → β → Prop
def Mn {β : Type} (R : Rl β) : Prop := ∀ H H' v b, Ex H H' → R H v b → R H' v b
/-- the tuples stay -/
def Tp (H H' : Hp) : Prop := ∀ a us, H a = some (.tup us) → H' a = some (.tup us)
def Mt {β : Type} (R : Rl β) : Prop := ∀ H H' v b, Tp H H' → R H v b → R H' v b
theorem Ex.tp {H H' : Hp} (e : Ex H H') : Tp H H' := fun _ _ h => e _ _ h
theorem Tp.trans {H H1 H2 : Hp} (a : Tp H H1) (b : Tp H1 H2) : Tp H H2 := fun x u h => b x u (a x u h)
theorem Mt.mn {β : Type} {R : Rl β} (m : Mt R) : Mn R := fun H H' v b e h => m H H' v b (Ex.tp e) h
theorem tp_lst {H : Hp} {D : Addr} {xs : List V} {o : HO} (h : H D = some (.lst xs)) : Tp H (upd H D o) := fun a us ha => by
  rw [upd_ne (ne_of ha h (fun z => nomatch z))]
  exact ha
def rS {β : Type} (f : β → V) : Rl β := fun _ v b => v = f b
abbrev rI : Rl Int := rS V.int
abbrev rN : Rl Nat := rS fun n => V.int (n : Int)
abbrev tx (l : List Nat) : Str := ⟨l.toArray⟩
abbrev rX : Rl (List Nat) := rS fun l => V.str (tx l)
abbrev rC : Rl Nat := rS fun c => V.str ⟨#[c]⟩
abbrev rBl : Rl Bool := rS V.bl
abbrev rU : Rl Unit := rS fun _ => V.non
def rL {β : Type} (R : Rl β) : Rl (List β) := fun H v bs => ∃ p us, v = .ref p ∧ H p = some (.lst us) ∧ Paired (R H) us bs
def rT {β : Type} (R : Rl β) : Rl (List β) := fun H v bs => ∃ p us, v = .ref p ∧ H p = some (.tup us) ∧ Paired (R H) us bs
def rP {α β : Type} (R : Rl α) (S : Rl β) : Rl (α × β) := fun H v b => ∃ p x y, v = .ref p ∧ H p = some (.tup [x, y]) ∧ R H x b.1 ∧ S H y b.2
abbrev rPr : Rl (Nat × Nat) := rP rN rN
abbrev rCo : Rl (Nat × List (Nat × Nat)) := rP rN (rT rPr)
section
variable {α β γ : Type} {R : Rl α} {S : Rl β} {T : Rl γ}
theorem mn_S {f : α → V} : Mn (rS f) := fun _ _ _ _ _ h => h
theorem mn_L (m : Mn R) : Mn (rL R) := fun H H' v b e h => by
  obtain ⟨p, us, h1, h2, h3⟩ := h
  exact ⟨p, us, h1, e _ _ h2, Paired.mapP h3 fun x y => m H H' x y e⟩
theorem mn_T (m : Mn R) : Mn (rT R) := fun H H' v b e h => by
  obtain ⟨p, us, h1, h2, h3⟩ := h
  exact ⟨p, us, h1, e _ _ h2, Paired.mapP h3 fun x y => m H H' x y e⟩
theorem mn_P (m : Mn R) (n : Mn S) : Mn (rP R S) := fun H H' v b e h => by
  obtain ⟨p, x, y, h1, h2, h3, h4⟩ := h
  exact ⟨p, x, y, h1, e _ _ h2, m _ _ _ _ e h3, n _ _ _ _ e h4⟩
theorem mt_S {f : α → V} : Mt (rS f) := fun _ _ _ _ _ h => h
theorem mt_T (m : Mt R) : Mt (rT R) := fun H H' v b e h => by
  obtain ⟨p, us, h1, h2, h3⟩ := h
  exact ⟨p, us, h1, e _ _ h2, Paired.mapP h3 fun x y => m H H' x y e⟩
theorem mt_P (m : Mt R) (n : Mt S) : Mt (rP R S) := fun H H' v b e h => by
  obtain ⟨p, x, y, h1, h2, h3, h4⟩ := h
  exact ⟨p, x, y, h1, e _ _ h2, m _ _ _ _ e h3, n _ _ _ _ e h4⟩
theorem mt_pr : Mt rPr := mt_P mt_S mt_S
theorem mt_co : Mt rCo := mt_P mt_S (mt_T mt_pr)
theorem mn_pr : Mn rPr := mn_P mn_S mn_S
theorem mn_co : Mn rCo := mn_P mn_S (mn_T mn_pr)
end
theorem pd_get {α β : Type} {F : α → β → Prop} : ∀ {xs : List α} {ys : List β} {i : Nat} {x : α}, Paired F xs ys → xs[i]? = some x → ∃ y, ys[i]? = some y ∧ F x y
  | _, _, _, _, .nil, e => by simp at e
  | _, _, 0, _, .cons r _, e => by
    have e' := Option.some.inj (by simpa using e)
    subst e'
    exact ⟨_, rfl, r⟩
  | _, _, i + 1, x, .cons _ t, e => by
    obtain ⟨y, h1, h2⟩ := pd_get (i := i) (x := x) t (by simpa using e)
    exact ⟨y, by simpa using h1, h2⟩
theorem pd_getR {α β : Type} {F : α → β → Prop} : ∀ {xs : List α} {ys : List β} {i : Nat} {y : β}, Paired F xs ys → ys[i]? = some y → ∃ x, xs[i]? = some x ∧ F x y
  | _, _, _, _, .nil, e => by simp at e
  | _, _, 0, _, .cons r _, e => by
    have e' := Option.some.inj (by simpa using e)
    subst e'
    exact ⟨_, rfl, r⟩
  | _, _, i + 1, x, .cons _ t, e => by
    obtain ⟨y, h1, h2⟩ := pd_getR (i := i) (y := x) t (by simpa using e)
    exact ⟨y, by simpa using h1, h2⟩
theorem pd_append {α β : Type} {F : α → β → Prop} : ∀ {xs xs' : List α} {ys ys' : List β}, Paired F xs ys → Paired F xs' ys' → Paired F (xs ++ xs') (ys ++ ys')
  | _, _, _, _, .nil, s => s
  | _, _, _, _, .cons r t, s => .cons r (pd_append t s)
theorem pd_map {α β : Type} {f : β → α} : ∀ {xs : List α} {ys : List β}, Paired (fun x y => x = f y) xs ys → xs = ys.map f
  | _, _, .nil => rfl
  | _, _, .cons r t => by rw [List.map_cons, ← pd_map t, r]
theorem map_pd {α β : Type} {f : β → α} : ∀ ys : List β, Paired (fun x y => x = f y) (ys.map f) ys
  | [] => .nil
  | _ :: t => .cons rfl (map_pd t)

def EvR {β : Type} (te : TE) (σ : L2.St) (H : Hp) (R : Rl β) (b : β) : Prop := ∀ H1, Ex H H1 → ∀ Q : VK, (∀ v H2, Ex H1 H2 → R H2 v b → Q v H2) → te σ H1 Q
/-- an iterator that gives the things of bs -/
def IsIt {β : Type} (J : It) (H : Hp) (R : Rl β) (bs : List β) : Prop := ∃ Y, Walk J bs.length (Ex H) Y ∧ ∀ i H' x H'', i < bs.length → Ex H H' → Y i H' x H'' → Ex H' H'' ∧ ∃ b, bs[i]? = some b ∧ R H'' x b
def EvI {β : Type} (ti : TI) (σ : L2.St) (H : Hp) (R : Rl β) (bs : List β) : Prop := ∀ H1, Ex H H1 → ∀ Q : It → Hp → Prop, (∀ J H2, Ex H1 H2 → IsIt J H2 R bs → Q J H2) → ti σ H1 Q
def TgR {α : Type} (g : TG) (R : Rl α) (up : V → α → L2.St → L2.St) : Prop := ∀ x a σ H (k : L2.St → Hp → Prop), R H x a → k (up x a σ) H → g x σ H k
section
variable {K : PySem.W.Frag} {σ : L2.St} {H H' : Hp} {te ta tb : TE} {α β γ : Type} {R : Rl α} {S : Rl β} {T : Rl γ} {a : α} {b : β} {c : γ}
theorem EvR.mono (e : Ex H H') (h : EvR te σ H R a) : EvR te σ H' R a := fun H1 e1 Q q => h H1 (e.trans e1) Q q
theorem er_ev {f : α → V} (h : Ev te σ H (f a)) : EvR te σ H (rS f) a := fun H1 e Q q => h H1 e Q fun H2 e2 => q _ H2 e2 rfl
theorem ev_er {f : α → V} (h : EvR te σ H (rS f) a) : Ev te σ H (f a) := fun H1 e Q q => h H1 e Q fun v H2 e2 r => by
  cases r
  exact q H2 e2
theorem er_var {i : Nat} {v : V} (h : σ[i]? = some (some v)) (r : R H v a) (m : Mn R) : EvR (tVar i) σ H R a := fun H1 e Q q => ⟨v, h, q v H1 (Ex.refl H1) (m _ _ _ _ e r)⟩
theorem er_is {a' : α} (h : EvR te σ H R a) (e : a = a') : EvR te σ H R a' := e ▸ h
theorem er_op {r : R2} (ha : EvR ta σ H R a) (hb : EvR tb σ H S b) (m : Mn R) (hr : ∀ x y H1, Ex H H1 → R H1 x a → S H1 y b → ∀ Q : VK, (∀ v H2, Ex H1 H2 → T H2 v c → Q v H2) → r x y H1 Q) : EvR (tOp r ta tb) σ H T c := fun H1 e Q q =>
  ha H1 e _ fun x H2 e2 rx => hb H2 (e.trans e2) _ fun y H3 e3 ry => hr x y H3 ((e.trans e2).trans e3) (m _ _ _ _ e3 rx) ry Q fun v H4 e4 rv => q v H4 ((e2.trans e3).trans e4) rv
theorem er_if {t : TT} {k : Bool} (h : EvT t σ H k) (h1 : k = true → EvR ta σ H R a) (h2 : k = false → EvR tb σ H R a) : EvR (tIf t ta tb) σ H R a := fun H1 e Q q => h H1 e _ fun H2 e2 => by
  cases k with
  | true =>
    show ta σ H2 Q
    exact h1 rfl H2 (e.trans e2) Q fun v H3 e3 => q v H3 (e2.trans e3)
  | false =>
    show tb σ H2 Q
    exact h2 rfl H2 (e.trans e2) Q fun v H3 e3 => q v H3 (e2.trans e3)
/-! ### calls -/
def sp1 {α β : Type} (R : Rl α) (G : α → Prop) (S : Rl β) (f : α → β) : Sp := fun vs H Q _ => ∃ x a, vs = [x] ∧ R H x a ∧ G a ∧ ∀ v H2, Ex H H2 → S H2 v (f a) → Q v H2
def sp2 {α β γ : Type} (R : Rl α) (S : Rl β) (G : α → β → Prop) (T : Rl γ) (f : α → β → γ) : Sp := fun vs H Q _ => ∃ x y a b, vs = [x, y] ∧ R H x a ∧ S H y b ∧ G a b ∧ ∀ v H2, Ex H H2 → T H2 v (f a b) → Q v H2
def sp3 {α β γ δ : Type} (R : Rl α) (S : Rl β) (T : Rl γ) (G : α → β → γ → Prop) (U : Rl δ) (f : α → β → γ → δ) : Sp := fun vs H Q _ => ∃ x y z a b c, vs = [x, y, z] ∧ R H x a ∧ S H y b ∧ T H z c ∧ G a b c ∧ ∀ v H2, Ex H H2 → U H2 v (f a b c) → Q v H2
theorem er_c1 {G : α → Prop} {f : α → β} {E : XK} (h : EvR ta σ H R a) (g : G a) : EvR (tCall (sp1 R G S f) [] E (tCons ta tNil)) σ H S (f a) := fun H1 e Q q =>
  h H1 e _ fun x H2 e2 rx => ⟨x, a, rfl, rx, g, fun v H3 e3 rv => q v H3 (e2.trans e3) rv⟩
theorem er_c2 {G : α → β → Prop} {f : α → β → γ} {E : XK} (h : EvR ta σ H R a) (h2 : EvR tb σ H S b) (m : Mn R) (g : G a b) : EvR (tCall (sp2 R S G T f) [] E (tCons ta (tCons tb tNil))) σ H T (f a b) := fun H1 e Q q =>
  h H1 e _ fun x H2 e2 rx => h2 H2 (e.trans e2) _ fun y H3 e3 ry => ⟨x, y, a, b, rfl, m _ _ _ _ e3 rx, ry, g, fun v H4 e4 rv => q v H4 ((e2.trans e3).trans e4) rv⟩
theorem er_c3 {δ : Type} {U : Rl δ} {tc : TE} {G : α → β → γ → Prop} {f : α → β → γ → δ} {E : XK} (h : EvR ta σ H R a) (h2 : EvR tb σ H S b) (h3 : EvR tc σ H T c) (m : Mn R) (n : Mn S) (g : G a b c) :
    EvR (tCall (sp3 R S T G U f) [] E (tCons ta (tCons tb (tCons tc tNil)))) σ H U (f a b c) := fun H1 e Q q =>
  h H1 e _ fun x H2 e2 rx => h2 H2 (e.trans e2) _ fun y H3 e3 ry => h3 H3 ((e.trans e2).trans e3) _ fun z H4 e4 rz =>
    ⟨x, y, z, a, b, c, rfl, m _ _ _ _ (e3.trans e4) rx, n _ _ _ _ e4 ry, rz, g, fun v H5 e5 rv => q v H5 (((e2.trans e3).trans e4).trans e5) rv⟩
/-- a built-in's call on one thing -/
theorem er_cb1 {r : List V → Hp → VK → Prop} (h : EvR ta σ H R a) (hr : ∀ x H1, Ex H H1 → R H1 x a → ∀ Q : VK, (∀ v H2, Ex H1 H2 → S H2 v b → Q v H2) → r [x] H1 Q) : EvR (tCB r (tCons ta tNil)) σ H S b := fun H1 e Q q =>
  h H1 e _ fun x H2 e2 rx => hr x H2 (e.trans e2) rx Q fun v H3 e3 rv => q v H3 (e2.trans e3) rv
theorem er_cb2 {r : List V → Hp → VK → Prop} (h : EvR ta σ H R a) (h2 : EvR tb σ H S b) (m : Mn R) (hr : ∀ x y H1, Ex H H1 → R H1 x a → S H1 y b → ∀ Q : VK, (∀ v H2, Ex H1 H2 → T H2 v c → Q v H2) → r [x, y] H1 Q) : EvR (tCB r (tCons ta (tCons tb tNil))) σ H T c := fun H1 e Q q =>
  h H1 e _ fun x H2 e2 rx => h2 H2 (e.trans e2) _ fun y H3 e3 ry => hr x y H3 ((e.trans e2).trans e3) (m _ _ _ _ e3 rx) ry Q fun v H4 e4 rv => q v H4 ((e2.trans e3).trans e4) rv
/-! ### parts of tuples -/
theorem er_fst {i : TE} (h : EvR te σ H (rP R S) (a, b)) (m : Mn R) (hi : ∀ H1, Ex H H1 → Ev i σ H1 (.int 0)) : EvR (tOp (rIxT K) te i) σ H R a := fun H1 e Q q =>
  h H1 e _ fun v H2 e2 r => by
    obtain ⟨p, x, y, rfl, hp, hx, hy⟩ := r
    exact hi H2 (e.trans e2) H2 (Ex.refl _) _ fun H3 e3 => ⟨p, [x, y], 0, x, rfl, rfl, st_of (e3 _ _ hp), rfl, q x H3 (e2.trans e3) (m _ _ _ _ e3 hx)⟩
theorem er_snd {i : TE} (h : EvR te σ H (rP R S) (a, b)) (m : Mn S) (hi : ∀ H1, Ex H H1 → Ev i σ H1 (.int 1)) : EvR (tOp (rIxT K) te i) σ H S b := fun H1 e Q q =>
  h H1 e _ fun v H2 e2 r => by
    obtain ⟨p, x, y, rfl, hp, hx, hy⟩ := r
    exact hi H2 (e.trans e2) H2 (Ex.refl _) _ fun H3 e3 => ⟨p, [x, y], 1, y, rfl, rfl, st_of (e3 _ _ hp), rfl, q y H3 (e2.trans e3) (m _ _ _ _ e3 hy)⟩
theorem er_pair (h1 : EvR ta σ H R a) (h2 : EvR tb σ H S b) (m : Mn R) (n : Mn S) : EvR (tTup (tCons ta (tCons tb tNil))) σ H (rP R S) (a, b) := fun H1 e Q q =>
  h1 H1 e _ fun x H2 e2 rx => h2 H2 (e.trans e2) _ fun y H3 e3 ry => ⟨(show 2 ≤ 16777216 by omega), fun p hp =>
    q _ _ ((e2.trans e3).trans (Ex.new hp)) ⟨p, x, y, rfl, upd_same, m _ _ _ _ (e3.trans (Ex.new hp)) rx, n _ _ _ _ (Ex.new hp) ry⟩⟩
theorem er_one (h1 : EvR ta σ H R a) (m : Mn R) : EvR (tTup (tCons ta tNil)) σ H (rT R) [a] := fun H1 e Q q =>
  h1 H1 e _ fun x H2 e2 rx => ⟨(show 1 ≤ 16777216 by omega), fun p hp => q _ _ (e2.trans (Ex.new hp)) ⟨p, [x], rfl, upd_same, .cons (m _ _ _ _ (Ex.new hp) rx) .nil⟩⟩
theorem er_tup0 : EvR (tTup tNil) σ H (rT R) [] := fun H1 e Q q => ⟨Nat.zero_le _, fun p hp => q _ _ (Ex.new hp) ⟨p, [], rfl, upd_same, .nil⟩⟩
theorem er_lst0 : EvR (tLst tNil) σ H (rL R) [] := fun H1 e Q q => ⟨Nat.zero_le _, fun p hp => q _ _ (Ex.new hp) ⟨p, [], rfl, upd_same, .nil⟩⟩
theorem er_lst1 (h1 : EvR ta σ H R a) (m : Mn R) : EvR (tLst (tCons ta tNil)) σ H (rL R) [a] := fun H1 e Q q =>
  h1 H1 e _ fun x H2 e2 rx => ⟨(show 1 ≤ 16777216 by omega), fun p hp => q _ _ (e2.trans (Ex.new hp)) ⟨p, [x], rfl, upd_same, .cons (m _ _ _ _ (Ex.new hp) rx) .nil⟩⟩
theorem sz4 {n : Nat} (h : n ≤ 100000) : n ≤ sizeLine := sz_of h
theorem er_cat {as bs : List α} (h1 : EvR ta σ H (rL R) as) (h2 : EvR tb σ H (rL R) bs) (m : Mn R) (hz : as.length + bs.length ≤ 100000) : EvR (tOp rCat ta tb) σ H (rL R) (as ++ bs) :=
  er_op h1 h2 (mn_L m) fun x y H1 e rx ry Q q => by
    obtain ⟨p, us, rfl, hp, hu⟩ := rx
    obtain ⟨p', us', rfl, hp', hu'⟩ := ry
    exact ⟨p, p', us, us', rfl, rfl, hp, hp', sz4 (by rw [hu.length, hu'.length]; exact hz), fun l hl => q _ _ (Ex.new hl) ⟨l, us ++ us', rfl, upd_same, Paired.mapP (pd_append hu hu') fun x y => m _ _ _ _ (Ex.new hl)⟩⟩
theorem er_catX {u v : List Nat} (h1 : EvR ta σ H rX u) (h2 : EvR tb σ H rX v) (hz : u.length + v.length ≤ 100000) {r : R2} (hr : ∀ (i j : Str) H1 Q, i.length + j.length ≤ sizeLine → Q (.str (i ++ j)) H1 → r (.str i) (.str j) H1 Q) : EvR (tOp r ta tb) σ H rX (u ++ v) :=
  er_op h1 h2 mn_S fun x y H1 e rx ry Q q => by
    cases rx
    cases ry
    refine hr _ _ _ _ (sz4 (by simpa [Str.length] using hz)) (q _ _ (Ex.refl _) ?_)
    show V.str (tx u ++ tx v) = V.str (tx (u ++ v))
    congr 1
    show (⟨(u.toArray ++ v.toArray)⟩ : Str) = ⟨(u ++ v).toArray⟩
    rw [List.append_toArray]
/-! ### what is walked -/
theorem ei_list {bs : List α} (h : EvR te σ H (rL R) bs) (m : Mn R) : EvI (iList K te) σ H R bs := fun H1 e Q q => h H1 e _ fun v H2 e2 r => by
  obtain ⟨p, us, rfl, hp, hr⟩ := r
  refine ⟨p, rfl, ⟨us, sq_of hp⟩, q _ H2 e2 ⟨YAt us, ?_, fun i H' x H'' hi e' y => ?_⟩⟩
  · rw [← hr.length]
    exact walk_list.mono (fun H' e' => sq_of (e' _ _ hp)) fun _ _ _ _ _ _ y => y
  · obtain ⟨rfl, hx⟩ := y
    obtain ⟨b, hb, rb⟩ := pd_get hr hx
    exact ⟨Ex.refl _, b, hb, m _ _ _ _ e' rb⟩
theorem ei_tup {bs : List α} (h : EvR te σ H (rT R) bs) (m : Mn R) : EvI (iTup K te) σ H R bs := fun H1 e Q q => h H1 e _ fun v H2 e2 r => by
  obtain ⟨p, us, rfl, hp, hr⟩ := r
  refine ⟨p, rfl, ⟨us, st_of hp⟩, q _ H2 e2 ⟨YAt us, ?_, fun i H' x H'' hi e' y => ?_⟩⟩
  · rw [← hr.length]
    exact walk_tup.mono (fun H' e' => st_of (e' _ _ hp)) fun _ _ _ _ _ _ y => y
  · obtain ⟨rfl, hx⟩ := y
    obtain ⟨b, hb, rb⟩ := pd_get hr hx
    exact ⟨Ex.refl _, b, hb, m _ _ _ _ e' rb⟩
theorem ei_str {l : List Nat} (h : EvR te σ H rX l) : EvI (iStr te) σ H rC l := fun H1 e Q q => h H1 e _ fun v H2 e2 r => by
  cases r
  refine ⟨tx l, rfl, q _ H2 e2 ⟨_, walk_str.mono (fun _ _ => trivial) fun _ _ _ _ _ _ y => y, fun i H' x H'' hi e' y => ?_⟩⟩
  obtain ⟨rfl, c, hc, rfl⟩ := y
  exact ⟨Ex.refl _, c, by simpa using hc, rfl⟩
theorem ei_rng {ta : TA} {n : Nat} (h : EvA ta σ H [.int (n : Int)]) (hn : n ≤ 100000) : EvI (iRng1 ta) σ H rN (List.range n) := fun H1 e Q q => h H1 e _ fun H2 e2 =>
  ⟨n, rfl, by omega, by omega, q _ H2 e2 ⟨YFn fun i => .int ((0 : Int) + i), by
    rw [List.length_range, Int.toNat_natCast]
    exact walk_range.mono (fun _ _ => trivial) fun _ _ _ _ _ _ y => y, fun i H' x H'' hi e' y => by
    obtain ⟨rfl, rfl⟩ := y
    rw [List.length_range] at hi
    exact ⟨Ex.refl _, i, by rw [List.getElem?_range hi], by show V.int _ = V.int _; rw [Int.zero_add]⟩⟩⟩
theorem ei_rng2 {ta : TA} {lo n : Nat} (h : EvA ta σ H [.int (lo : Int), .int (n : Int)]) (hn : n ≤ 100000) (hl : lo ≤ 100000) : EvI (iRng2 ta) σ H rN (List.range' lo (n - lo)) := fun H1 e Q q => h H1 e _ fun H2 e2 =>
  ⟨lo, n, rfl, ⟨by omega, by omega, by omega, by omega⟩, q _ H2 e2 ⟨YFn fun i => .int ((lo : Int) + i), by
    have e1 : ((n : Int) - (lo : Int)).toNat = n - lo := by omega
    rw [List.length_range', e1]
    exact walk_range.mono (fun _ _ => trivial) fun _ _ _ _ _ _ y => y, fun i H' x H'' hi e' y => by
    obtain ⟨rfl, rfl⟩ := y
    rw [List.length_range'] at hi
    exact ⟨Ex.refl _, lo + i, by rw [List.getElem?_range' hi]; simp, by show V.int _ = V.int _; congr 1⟩⟩⟩
theorem tg_name {j : Nat} : TgR (gName j) R (fun x _ σ => σ.set j (some x)) := fun x a σ H k _ h => h
theorem tg_pair {i j : Nat} : TgR (gTup K 2 (gCons (gName i) (gCons (gName j) gNil))) rPr (fun _ p σ => (σ.set i (some (.int (p.1 : Int)))).set j (some (.int (p.2 : Int)))) := fun x a σ H k r h => by
  obtain ⟨p, x, y, rfl, hp, hx, hy⟩ := r
  cases hx
  cases hy
  exact ⟨p, _, rfl, st_of hp, rfl, _, _, rfl, _, _, rfl, rfl, h⟩
/-! ### a comprehension -/
theorem er_lc {it : TI} {g : TG} {t : TT} {vs : List Nat} {as : List α} {up : V → α → L2.St → L2.St} (f : α → Bool) (v : α → β) (hi : EvI it σ H R as) (m : Mt S) (hz : as.length ≤ 40000) (hg : TgR g R up)
    (hb : ∀ a x H1, Ex H H1 → a ∈ as → R H1 x a → wipe (up x a (wipe σ vs)) vs = wipe σ vs ∧ EvT t (up x a (wipe σ vs)) H1 (f a) ∧ (f a = true → EvR te (up x a (wipe σ vs)) H1 S (v a))) :
    EvR (tLc it g t te vs) σ H (rL S) ((as.filter f).map v) := fun H0 e Q q => hi H0 e _ fun J H1 e1 hJ D hD => by
  obtain ⟨Y, w, hY⟩ := hJ
  refine lc_it w (fun i H' => Ex H1 H' ∧ ∃ acc, H' D = some (.lst acc) ∧ Paired (S H') acc (((as.take i).filter f).map v)) ⟨Ex.new hD, [], upd_same, .nil⟩ (fun i H' _ p => p.1) (fun i x H' H2 hi p y => ?_) fun H' p => ?_
  · obtain ⟨p1, acc, p2, p3⟩ := p
    obtain ⟨e2, a, ha, ra⟩ := hY i H' x H2 hi p1 y
    have hE : Ex H H2 := (e.trans e1).trans (p1.trans e2)
    obtain ⟨hw, ht, he⟩ := hb a x H2 hE (List.mem_of_getElem? ha) ra
    refine hg _ _ _ _ _ ra ⟨hw, ht H2 (Ex.refl _) _ fun H3 e3 => ?_⟩
    have et : (as.take (i + 1)).filter f = (as.take i).filter f ++ [a].filter f := by
      rw [List.take_add_one, ha, List.filter_append]
      rfl
    have hl : acc.length < 100000 := by
      rw [p3.length, List.length_map]
      have h1 := List.length_filter_le f (as.take i)
      rw [List.length_take] at h1
      omega
    cases hf : f a with
    | true =>
      refine he hf H3 e3 _ fun z H4 e4 rz => ⟨acc, e4 _ _ (e3 _ _ (e2 _ _ p2)), sz_lt hl, Ex.mut (((p1.trans e2).trans e3).trans e4) hD, acc ++ [z], upd_same, ?_⟩
      rw [et, List.filter_cons, if_pos hf, List.map_append]
      have tp := tp_lst (o := .lst (acc ++ [z])) (e4 _ _ (e3 _ _ (e2 _ _ p2)))
      exact pd_append (Paired.mapP p3 fun x y => m _ _ _ _ ((((Ex.tp e2).trans (Ex.tp e3)).trans (Ex.tp e4)).trans tp)) (.cons (m _ _ _ _ tp rz) .nil)
    | false =>
      show Ex H1 H3 ∧ _
      refine ⟨(p1.trans e2).trans e3, acc, e3 _ _ (e2 _ _ p2), ?_⟩
      rw [et, List.filter_cons, if_neg (by rw [hf]; decide)]
      show Paired _ _ (List.map v (_ ++ []))
      rw [List.append_nil]
      exact Paired.mapP p3 fun x y => m.mn _ _ _ _ (e2.trans e3)
  · obtain ⟨p1, acc, p2, p3⟩ := p
    rw [List.take_length] at p3
    exact q _ _ (e1.trans p1) ⟨D, acc, rfl, p2, p3⟩
end
end F1
set_option Elab.async false
set_option linter.all false
set_option maxRecDepth 100000
/-! statements and loops over EvR -/
namespace F1
open PySem L2 Evl
section
variable {K : PySem.W.Frag} {σ : L2.St} {H H' : Hp} {te ta tb : TE} {α β γ : Type} {R : Rl α} {S : Rl β} {T : Rl γ} {a : α} {b : β} {c : γ} {D : Ends} {tu tw tz : TS} {g : TG} {it : TI} {up : V → α → L2.St → L2.St}
theorem r_ret (h : EvR te σ H R a) (k : ∀ v H1, Ex H H1 → R H1 v a → D.rt v H1) : tRet te D σ H := h H (Ex.refl H) _ fun v H1 e r => k v H1 e r
theorem r_set {i : Nat} (h : EvR te σ H R a) (k : ∀ v H1, Ex H H1 → R H1 v a → tz D (σ.set i (some v)) H1) : tSeq (tAsg te (gName i)) tz D σ H := h H (Ex.refl H) _ fun v H1 e r => k v H1 e r
theorem r_set1 {i : Nat} (h : EvR te σ H R a) (k : ∀ v H1, Ex H H1 → R H1 v a → D.nx (σ.set i (some v)) H1) : tAsg te (gName i) D σ H := h H (Ex.refl H) _ fun v H1 e r => k v H1 e r
theorem r_drop (h : EvR te σ H R a) (k : ∀ H1, Ex H H1 → tz D σ H1) : tSeq (tDrop te) tz D σ H := h H (Ex.refl H) _ fun v H1 e r => k H1 e
theorem r_par {i j : Nat} (h1 : EvR ta σ H R a) (h2 : EvR tb σ H S b) (m : Mn R) (k : ∀ v w H1, Ex H H1 → R H1 v a → S H1 w b → tz D ((σ.set i (some v)).set j (some w)) H1) : tSeq (tPar i j (tCons ta (tCons tb tNil))) tz D σ H :=
  h1 H (Ex.refl H) _ fun v H1 e1 r1 => h2 H1 e1 _ fun w H2 e2 r2 => ⟨v, w, rfl, k v w H2 (e1.trans e2) (m _ _ _ _ e2 r1) r2⟩
/-- a for: c what is held so far -/
theorem r_fold1 {as : List α} (step : γ → α → γ) (c0 : γ) (J : γ → L2.St → Hp → Prop) (hi : EvI it σ H R as) (hg : TgR g R up) (h0 : ∀ H1, Ex H H1 → J c0 σ H1)
    (hs : ∀ H2, Ex H H2 → ∀ c a x σ' H', Ex H2 H' → a ∈ as → R H' x a → J c σ' H' → tu { D with nx := fun σ'' H'' => Ex H2 H'' ∧ J (step c a) σ'' H'', ct := fun σ'' H'' => Ex H2 H'' ∧ J (step c a) σ'' H'', bk := D.nx } (up x a σ') H')
    (hJ : ∀ c σ' H' H'', Ex H' H'' → J c σ' H' → J c σ' H'')
    (hd : ∀ σ' H', Ex H H' → J (as.foldl step c0) σ' H' → D.nx σ' H') : tFor it g tu D σ H := hi H (Ex.refl H) _ fun Jt H2 e2 hJt => by
  obtain ⟨Y, w, hY⟩ := hJt
  refine for_it w (fun i σ' H' => Ex H2 H' ∧ J ((as.take i).foldl step c0) σ' H') ⟨Ex.refl _, h0 H2 e2⟩ (fun i σ' H' _ p => p.1) (fun i x σ' H' H'' hi p y => ?_) fun σ' H' p => ?_
  · obtain ⟨p1, p2⟩ := p
    obtain ⟨e3, a, ha, ra⟩ := hY i H' x H'' hi p1 y
    have et : as.take (i + 1) = as.take i ++ [a] := by
      rw [List.take_add_one, ha] <;> rfl
    refine hg _ _ _ _ _ ra ?_
    rw [et, List.foldl_append]
    exact hs H2 e2 _ a x σ' H'' (p1.trans e3) (List.mem_of_getElem? ha) ra (hJ _ _ _ _ e3 p2)
  · rw [List.take_length] at p
    exact hd σ' H' (e2.trans p.1) p.2
theorem r_fold {as : List α} (step : γ → α → γ) (c0 : γ) (J : γ → L2.St → Hp → Prop) (hi : EvI it σ H R as) (hg : TgR g R up) (h0 : ∀ H1, Ex H H1 → J c0 σ H1)
    (hs : ∀ H2, Ex H H2 → ∀ c a x σ' H', Ex H2 H' → a ∈ as → R H' x a → J c σ' H' → tu { D with nx := fun σ'' H'' => Ex H2 H'' ∧ J (step c a) σ'' H'', ct := fun σ'' H'' => Ex H2 H'' ∧ J (step c a) σ'' H'', bk := tz D } (up x a σ') H')
    (hJ : ∀ c σ' H' H'', Ex H' H'' → J c σ' H' → J c σ' H'')
    (hd : ∀ σ' H', Ex H H' → J (as.foldl step c0) σ' H' → tz D σ' H') : tSeq (tFor it g tu) tz D σ H := r_fold1 (D := { D with nx := tz D }) step c0 J hi hg h0 hs hJ hd
/-- a for, by the turn -/
theorem r_forN1 {as : List α} (Pv : Nat → L2.St → Hp → Prop) (hi : EvI it σ H R as) (hg : TgR g R up) (h0 : ∀ H1, Ex H H1 → Pv 0 σ H1)
    (hs : ∀ H2, Ex H H2 → ∀ i a x σ' H', Ex H2 H' → as[i]? = some a → R H' x a → Pv i σ' H' → tu { D with nx := fun σ'' H'' => Ex H2 H'' ∧ Pv (i + 1) σ'' H'', ct := fun σ'' H'' => Ex H2 H'' ∧ Pv (i + 1) σ'' H'', bk := D.nx } (up x a σ') H')
    (hJ : ∀ i σ' H' H'', Ex H' H'' → Pv i σ' H' → Pv i σ' H'')
    (hd : ∀ σ' H', Ex H H' → Pv as.length σ' H' → D.nx σ' H') : tFor it g tu D σ H := hi H (Ex.refl H) _ fun Jt H2 e2 hJt => by
  obtain ⟨Y, w, hY⟩ := hJt
  refine for_it w (fun i σ' H' => Ex H2 H' ∧ Pv i σ' H') ⟨Ex.refl _, h0 H2 e2⟩ (fun i σ' H' _ p => p.1) (fun i x σ' H' H'' hi p y => ?_) fun σ' H' p => hd σ' H' (e2.trans p.1) p.2
  obtain ⟨p1, p2⟩ := p
  obtain ⟨e3, a, ha, ra⟩ := hY i H' x H'' hi p1 y
  exact hg _ _ _ _ _ ra (hs H2 e2 i a x σ' H'' (p1.trans e3) ha ra (hJ _ _ _ _ e3 p2))
theorem r_forN {as : List α} (Pv : Nat → L2.St → Hp → Prop) (hi : EvI it σ H R as) (hg : TgR g R up) (h0 : ∀ H1, Ex H H1 → Pv 0 σ H1)
    (hs : ∀ H2, Ex H H2 → ∀ i a x σ' H', Ex H2 H' → as[i]? = some a → R H' x a → Pv i σ' H' → tu { D with nx := fun σ'' H'' => Ex H2 H'' ∧ Pv (i + 1) σ'' H'', ct := fun σ'' H'' => Ex H2 H'' ∧ Pv (i + 1) σ'' H'', bk := tz D } (up x a σ') H')
    (hJ : ∀ i σ' H' H'', Ex H' H'' → Pv i σ' H' → Pv i σ' H'')
    (hd : ∀ σ' H', Ex H H' → Pv as.length σ' H' → tz D σ' H') : tSeq (tFor it g tu) tz D σ H := r_forN1 (D := { D with nx := tz D }) Pv hi hg h0 hs hJ hd
end
end F1
set_option Elab.async false
set_option linter.all false
set_option maxRecDepth 100000
/-! the program by places; a def that is called -/
namespace F1
open PySem L2 Evl
def top (i : Nat) : Stmt := PySem.Challenge.pw_oncewords_k39_whole_gathering_and_stayin.main.body.getD i (.Pass ⟨0, 0, 0, 0⟩)
/-- a def that keeps its promise with d calls, by its name -/
structure Cal (P : Program) (w : World) (K : PySem.W.Frag) (mg : Str → Option Value) (base : Heap) (d : Nat) (x : Str) (f : Addr) (fd : FuncData) (ps : List Str) (sp : Sp) : Prop where
  ok : FnOk P w K mg base CX0 d f fd ps sp
  bd : Binds K fd ps []
  kp : PySem.W.keepIn K (.ref f) = true
  mg : mg x = some (.ref f)
theorem pe_cal {X : Cx} {d k : Nat} {x : Str} {f : Addr} {fd : FuncData} {ps : List Str} {sp : Sp} {p pos : Pos} {e : Expr} {es : List Expr} {t : TA} (C : Cal X.prog X.w X.K X.mg X.base d x f fd ps sp) (hd : d ≤ k) (hr : Room k X.A) (ha : PA X (e :: es) t)
    (hg : Gl X x := by rfl) (hdb : (x == ("__debug__" : Str)) = false := by decide) (he : starEach (e :: es) X.env = (false, eval e X.env) :: starEach es X.env := by rfl) (hpl : (backTo pos (starEach es X.env)).any (·.1) = false := by rfl) :
    PE X (.Call (.Name x p) (e :: es) [] pos) (tCall sp [] E0 t) := pe_call (C.ok.mono hd) hr hg C.mg C.kp C.bd .nil pass0 ha hdb he hpl
section
variable {K : PySem.W.Frag} {σ : L2.St} {H : Hp} {te ta tb tc : TE}
theorem ev_isi {v : V} {t : Value} {n : String} {b : Bool} (hx : Ev ta σ H v) (ty : ∀ H1, Ex H H1 → TyX K H1 v t) (e : PySem.W.kitOne K t (.type n) = some b) : Ev (tCB (rIsi K) (tCons ta (tCons (tC (.ty n)) tNil))) σ H (.bl b) :=
  ev_cb (ea_cons hx (ea_cons ev_c ea_nil)) fun H1 e1 Q q => ⟨v, .ty n, t, .type n, b, rfl, .ty n, ty H1 e1, e, q H1 (Ex.refl H1)⟩
theorem ev_chain {r r' : R2} {x y z : V} {a b : Bool} (h1 : Ev ta σ H x) (h2 : Ev tb σ H y) (h3 : Ev tc σ H z) (r1 : RV r x y H (.bl a)) (r2 : RV r' y z H (.bl b)) : Ev (tChain r r' ta tb tc) σ H (.bl (a && b)) := fun H1 e Q q =>
  h1 H1 e _ fun H2 e2 => h2 H2 (e.trans e2) _ fun H3 e3 => r1 H3 ((e.trans e2).trans e3) _ fun H4 e4 => ⟨a, rfl, by
    cases a with
    | false => exact q H4 ((e2.trans e3).trans e4)
    | true => exact h3 H4 (((e.trans e2).trans e3).trans e4) _ fun H5 e5 => r2 H5 ((((e.trans e2).trans e3).trans e4).trans e5) Q fun H6 e6 => q H6 ((((e2.trans e3).trans e4).trans e5).trans e6)⟩
theorem ev_lenT {α : Type} {R : Rl α} {bs : List α} (h : EvR te σ H (rT R) bs) : Ev (tCB (rLenS K) (tCons te tNil)) σ H (.int (bs.length : Int)) := fun H1 e Q q => h H1 e _ fun v H2 e2 r => by
  obtain ⟨p, us, rfl, hp, hr⟩ := r
  refine ⟨p, us, rfl, .inr (st_of hp), ?_⟩
  rw [hr.length]
  exact q H2 e2
theorem ev_lenX {l : List Nat} (hl : l.length ≤ 100000) (h : Ev te σ H (.str (tx l))) : Ev (tCB (fun xs H Q => ∃ z, xs = [.str z] ∧ z.length ≤ sizeLine ∧ Q (.int z.length) H) (tCons te tNil)) σ H (.int (l.length : Int)) := fun H1 e Q q => h H1 e _ fun H2 e2 =>
  ⟨tx l, rfl, sz_of (by simpa [Str.length] using hl), by
    have : (tx l).length = l.length := by simp [Str.length]
    rw [this]
    exact q H2 e2⟩
end
end F1
set_option Elab.async false
set_option linter.all false
set_option maxRecDepth 100000
set_option maxHeartbeats 1000000
namespace F1
open PySem PySem.Spec PyProof.Rows L2 Evl
theorem er_imp {α β : Type} {R : Rl α} {S : Rl β} {a : α} {b : β} {te : TE} {σ : L2.St} {H : Hp} (h : EvR te σ H R a) (i : ∀ H1 v, Ex H H1 → R H1 v a → S H1 v b) : EvR te σ H S b := fun H1 e Q q => h H1 e Q fun v H2 e2 r => q v H2 e2 (i H2 v (e.trans e2) r)
theorem et_false {t : TT} {σ : L2.St} {H : Hp} {b : Bool} (h : EvT t σ H b) (e : b = false) : EvT t σ H false := e ▸ h
theorem ev_vr {β : Type} {f : β → V} {te : TE} {σ : L2.St} {H : Hp} {b : β} {v : V} (h : EvR te σ H (rS f) b) (e : f b = v) : Ev te σ H v := e ▸ ev_er h
theorem ev_allL {K : PySem.W.Frag} {te : TE} {σ : L2.St} {H : Hp} {bs : List Bool} (h : EvR te σ H (rL rBl) bs) : Ev (tCB (rAll K) (tCons te tNil)) σ H (.bl (bs.all id)) := fun H1 e Q q => h H1 e _ fun v H2 e2 r => by
  obtain ⟨p, us, rfl, hp, hr⟩ := r
  exact ⟨p, bs, rfl, by rw [← pd_map hr]; exact sq_of hp, q H2 e2⟩
theorem ev_anyL {K : PySem.W.Frag} {te : TE} {σ : L2.St} {H : Hp} {bs : List Bool} (h : EvR te σ H (rL rBl) bs) : Ev (tCB (rAny K) (tCons te tNil)) σ H (.bl (bs.any id)) := fun H1 e Q q => h H1 e _ fun v H2 e2 r => by
  obtain ⟨p, us, rfl, hp, hr⟩ := r
  exact ⟨p, bs, rfl, by rw [← pd_map hr]; exact sq_of hp, q H2 e2⟩
/-- a tuple of that length -/
def rTu : Rl Nat := fun H v n => ∃ p us, v = .ref p ∧ H p = some (.tup us) ∧ us.length = n
theorem tu_T {α : Type} {R : Rl α} {H : Hp} {v : V} {bs : List α} (h : rT R H v bs) : rTu H v bs.length := by
  obtain ⟨p, us, h1, h2, h3⟩ := h
  exact ⟨p, us, h1, h2, h3.length⟩
theorem tu_P {α β : Type} {R : Rl α} {S : Rl β} {H : Hp} {v : V} {b : α × β} (h : rP R S H v b) : rTu H v 2 := by
  obtain ⟨p, x, y, h1, h2, _⟩ := h
  exact ⟨p, [x, y], h1, h2, rfl⟩
section
variable {P : Program} {w : World} {K : PySem.W.Frag} {mg : Str → Option Value} {base : Heap} {f : Addr} {fd : FuncData} {k : Nat}
/-! ### whole, within, need_number, tuple_of -/
theorem sc10 : FnScope ["value"] ["value"] (defScope (top 10)) := ⟨rfl, rfl, rfl, by decide +kernel, rfl, by decide +kernel, by decide +kernel⟩
abbrev spWhole : Sp := sp1 rI (fun _ => True) rBl fun _ => true
theorem ok_whole (F : Fun K "whole" "whole" (top 10) f fd) (mi : mg "isinstance" = none) (mt : mg "int" = none) (mb : mg "bool" = none) : FnOk P w K mg base CX0 (k + 1) f fd ["value"] spWhole := by
  refine F.ok sc10 (fun vs H Q E h => ?_) (fun cdv A outer s H vs Q E hr h => ?_)
  · obtain ⟨x, a, rfl, _⟩ := h
    rfl
  obtain ⟨x, a, rfl, hx, hG, q⟩ := h
  cases hx
  refine ⟨_, pss_one (ps_ret (pe_and (pe_callB call_isi rfl mi boot_isinstance (pa_cons (pv 0) (pa_cons (pe_bltn (v := .ty "int") (u := .type "int") rfl mt (by decide +kernel) rfl) pa_nil)))
    (pe_one (pe_not (pe_callB call_isi rfl mi boot_isinstance (pa_cons (pv 0) (pa_cons (pe_bltn (v := .ty "bool") (u := .type "bool") rfl mb (by decide +kernel) rfl) pa_nil))))))), ?_⟩
  refine s_ret (ev_andV (ev_isi (ev_var rfl) (fun H1 _ => .base (.int a)) (kit_ty (r := true) (by decide +kernel))) fun _ => ev_notV (ev_isi (ev_var rfl) (fun H1 _ => .base (.int a)) (kit_ty (r := false) (by decide +kernel)))) fun H1 e => q _ H1 e rfl
theorem sc11 : FnScope ["value", "low", "high"] ["value", "low", "high"] (defScope (top 11)) := ⟨rfl, rfl, rfl, by decide +kernel, rfl, by decide +kernel, by decide +kernel⟩
abbrev spWithin : Sp := sp3 rI rI rI (fun _ _ _ => True) rBl fun v lo hi => decide (lo ≤ v) && decide (v ≤ hi)
theorem ok_within {g : Addr} {gd : FuncData} (F : Fun K "within" "within" (top 11) f fd) (W : Cal P w K mg base 1 "whole" g gd ["value"] spWhole) : FnOk P w K mg base CX0 (k + 2) f fd ["value", "low", "high"] spWithin := by
  refine F.ok sc11 (fun vs H Q E h => ?_) (fun cdv A outer s H vs Q E hr h => ?_)
  · obtain ⟨x, y, z, a, b, c, rfl, _⟩ := h
    rfl
  obtain ⟨x, y, z, a, b, c, rfl, hx, hy, hz, hG, q⟩ := h
  cases hx
  cases hy
  cases hz
  refine ⟨_, pss_one (ps_ret (pe_and (pe_cal W (Nat.le_add_left 1 k) hr (pa_cons (pv 0) pa_nil)) (pe_one (pe_chain op_le op_le (pv 1) (pv 0) (pv 2))))), ?_⟩
  refine s_ret (ev_andV (ev_er (er_c1 (er_var rfl (a := a) rfl mn_S) trivial)) fun _ => ev_chain (ev_var rfl) (ev_var rfl) (ev_var rfl) rv_I0 rv_I0) fun H1 e => q _ H1 e rfl
theorem sc12 : FnScope ["value", "low", "high"] ["value", "low", "high"] (defScope (top 12)) := ⟨rfl, rfl, rfl, by decide +kernel, rfl, by decide +kernel, by decide +kernel⟩
abbrev spNum : Sp := sp3 rI rI rI (fun v lo hi => lo ≤ v ∧ v ≤ hi) rU fun _ _ _ => ()
theorem ok_num {g : Addr} {gd : FuncData} (F : Fun K "need_number" "need_number" (top 12) f fd) (W : Cal P w K mg base 2 "within" g gd ["value", "low", "high"] spWithin) : FnOk P w K mg base CX0 (k + 3) f fd ["value", "low", "high"] spNum := by
  refine F.ok sc12 (fun vs H Q E h => ?_) (fun cdv A outer s H vs Q E hr h => ?_)
  · obtain ⟨x, y, z, a, b, c, rfl, _⟩ := h
    rfl
  obtain ⟨x, y, z, a, b, c, rfl, hx, hy, hz, hG, q⟩ := h
  cases hx
  cases hy
  cases hz
  refine ⟨_, pss_one (ps_if (pt_not (pt_val (pe_cal W (Nat.le_add_left 2 k) hr (pa_cons (pv 0) (pa_cons (pv 1) (pa_cons (pv 2) pa_nil)))))) pss_never pss_nil), ?_⟩
  refine s_when (et_false (et_not (et_B (ev_er (er_c3 (er_var rfl (a := a) rfl mn_S) (er_var rfl (a := b) rfl mn_S) (er_var rfl (a := c) rfl mn_S) mn_S mn_S trivial)))) ?_) (fun z => nomatch z) fun _ H1 e => q _ H1 e rfl
  rw [decide_eq_true hG.1, decide_eq_true hG.2]
  rfl
theorem sc13 : FnScope ["value", "low", "high"] ["value", "low", "high"] (defScope (top 13)) := ⟨rfl, rfl, rfl, by decide +kernel, rfl, by decide +kernel, by decide +kernel⟩
abbrev spTup : Sp := sp3 rTu rI rI (fun _ _ _ => True) rBl fun n lo hi => decide (lo ≤ (n : Int)) && decide ((n : Int) ≤ hi)
theorem mn_tu : Mn rTu := fun H H' v b e h => by
  obtain ⟨p, us, h1, h2, h3⟩ := h
  exact ⟨p, us, h1, e _ _ h2, h3⟩
theorem ok_tup (F : Fun K "tuple_of" "tuple_of" (top 13) f fd) (mi : mg "isinstance" = none) (mt : mg "tuple" = none) (ml : mg "len" = none) : FnOk P w K mg base CX0 (k + 1) f fd ["value", "low", "high"] spTup := by
  refine F.ok sc13 (fun vs H Q E h => ?_) (fun cdv A outer s H vs Q E hr h => ?_)
  · obtain ⟨x, y, z, a, b, c, rfl, _⟩ := h
    rfl
  obtain ⟨x, y, z, a, b, c, rfl, ⟨p, us, rfl, hp, hl⟩, hy, hz, hG, q⟩ := h
  cases hy
  cases hz
  refine ⟨_, pss_one (ps_ret (pe_and (pe_callB call_isi rfl mi boot_isinstance (pa_cons (pv 0) (pa_cons (pe_bltn (v := .ty "tuple") (u := .type "tuple") rfl mt (by decide +kernel) rfl) pa_nil)))
    (pe_one (pe_chain op_le op_le (pv 1) (pe_callB call_len_seq rfl ml boot_len (pa_cons (pv 0) pa_nil)) (pv 2))))), ?_⟩
  have hlen : Ev (tCB (rLenS K) (tCons (tVar 0) tNil)) (start ["value", "low", "high"] [.ref p, .int b, .int c]) H (.int (a : Int)) := fun H1 e Q q => ⟨_, rfl, p, us, rfl, .inr (st_of (e _ _ hp)), by
    rw [hl]
    exact q H1 (Ex.refl _)⟩
  refine s_ret (ev_andV (ev_isi (ev_var rfl) (fun H1 e1 => .base (.tup (e1 _ _ hp))) (kit_ty (r := true) (by decide +kernel))) fun _ => ev_chain (ev_var rfl) hlen (ev_var rfl) rv_I0 rv_I0) fun H1 e => q _ H1 e rfl
end
end F1
set_option Elab.async false
set_option linter.all false
set_option maxRecDepth 100000
set_option maxHeartbeats 1000000
namespace F1
open PySem PySem.Spec PyProof.Rows L2 Evl
theorem walk_enumT {K : PySem.W.Frag} {a : Addr} {xs : List V} : Walk (IteT K a) xs.length (fun H => SqT K H a xs) (YPair (fun i => some (.int (i : Nat))) (fun i => xs[i]?)) := by
  refine ⟨fun i _ hi q => ⟨xs, xs[i], q, by simp [hi]⟩, fun _ q => ⟨xs, q, rfl⟩, fun i H v H' _ q y => ?_⟩
  obtain ⟨T, x, h1, h2, h3, h4⟩ := y
  exact ⟨T, .int (i : Nat), x, h1, h2, h3, rfl, h4 xs q⟩
/-- what a company must be -/
def OkC (c : Nat × List (Nat × Nat)) : Prop := (1 ≤ c.1 ∧ c.1 ≤ 4) ∧ c.2.length ≤ 6 ∧ (∀ p ∈ c.2, p.1 < p.2 ∧ p.2 < c.1) ∧ ∀ i p q, c.2[i]? = some p → c.2[i + 1]? = some q → p.1 < q.1 ∨ (p.1 = q.1 ∧ p.2 < q.2)
theorem er_ixT {K : PySem.W.Frag} {α : Type} {R : Rl α} {te : TE} {i : TE} {σ : L2.St} {H : Hp} {bs : List α} {n : Nat} {b : α} (h : EvR te σ H (rT R) bs) (m : Mn R) (hi : ∀ H1, Ex H H1 → Ev i σ H1 (.int (n : Int))) (hb : bs[n]? = some b) : EvR (tOp (rIxT K) te i) σ H R b := fun H1 e Q q =>
  h H1 e _ fun v H2 e2 r => by
    obtain ⟨p, us, rfl, hp, hr⟩ := r
    obtain ⟨x, hx, rx⟩ := pd_getR hr hb
    exact hi H2 (e.trans e2) H2 (Ex.refl _) _ fun H3 e3 => ⟨p, us, n, x, rfl, rfl, st_of (e3 _ _ hp), atI_nat hx, q x H3 (e2.trans e3) (m _ _ _ _ e3 rx)⟩
theorem er_ixL {K : PySem.W.Frag} {α : Type} {R : Rl α} {te : TE} {i : TE} {σ : L2.St} {H : Hp} {bs : List α} {n : Nat} {b : α} (h : EvR te σ H (rL R) bs) (m : Mn R) (hi : ∀ H1, Ex H H1 → Ev i σ H1 (.int (n : Int))) (hb : bs[n]? = some b) : EvR (tOp (rIxL K) te i) σ H R b := fun H1 e Q q =>
  h H1 e _ fun v H2 e2 r => by
    obtain ⟨p, us, rfl, hp, hr⟩ := r
    obtain ⟨x, hx, rx⟩ := pd_getR hr hb
    exact hi H2 (e.trans e2) H2 (Ex.refl _) _ fun H3 e3 => ⟨p, us, n, x, rfl, rfl, sq_of (e3 _ _ hp), atI_nat hx, q x H3 (e2.trans e3) (m _ _ _ _ e3 rx)⟩
theorem ei_pair {K : PySem.W.Frag} {te : TE} {σ : L2.St} {H : Hp} {p : Nat × Nat} (h : EvR te σ H rPr p) : EvI (iTup K te) σ H rN [p.1, p.2] :=
  ei_tup (er_imp h fun H1 v _ r => by
    obtain ⟨a, x, y, rfl, ha, hx, hy⟩ := r
    exact ⟨a, [x, y], rfl, ha, .cons hx (.cons hy .nil)⟩) mn_S
theorem lexAt2 (e r : Nat → Bool) (l : Bool) : Ob.lexAt e r l 0 2 = if e 0 = true then (if e 1 = true then l else r 1) else r 0 := by
  rw [show (2 : Nat) = 1 + 1 from rfl, Ob.lexAt_succ, show (1 : Nat) = 0 + 1 from rfl, Ob.lexAt_succ]
  rfl
section
variable {P : Program} {w : World} {K : PySem.W.Frag} {mg : Str → Option Value} {base : Heap} {f : Addr} {fd : FuncData} {k : Nat}
theorem sc14 : FnScope ["company", "index", "pair", "letter"] ["company"] (defScope (top 14)) := ⟨rfl, rfl, rfl, by decide +kernel, rfl, by decide +kernel, by decide +kernel⟩
abbrev spCom : Sp := sp1 rCo OkC rU fun _ => ()
theorem ok_com {g1 g2 : Addr} {gd1 gd2 : FuncData} {tM : Tok} (F : Fun K "need_company" "need_company" (top 14) f fd) (W : Cal P w K mg base 2 "within" g1 gd1 ["value", "low", "high"] spWithin) (T : Cal P w K mg base 1 "tuple_of" g2 gd2 ["value", "low", "high"] spTup)
    (mM : mg "MOST_LETTERS" = some (.int 7 tM)) (me : mg "enumerate" = none) (ma : mg "all" = none) : FnOk P w K mg base CX0 (k + 3) f fd ["company"] spCom := by
  refine F.ok sc14 (fun vs H Q E h => ?_) (fun cdv A outer s H vs Q E hr h => ?_)
  · obtain ⟨x, a, rfl, _⟩ := h
    rfl
  obtain ⟨x, ⟨n, ps⟩, rfl, hx, ⟨⟨hn1, hn4⟩, hlen, hin, hup⟩, q⟩ := h
  refine ⟨_, pss_cons (ps_if ((pw_or (pt_not (pt_val (pe_cal T (Nat.le_add_left 1 (k + 1)) hr (pa_cons (pv 0) (pa_cons pe_int (pa_cons pe_int pa_nil))))))
      (pw_or (pt_not (pt_val (pe_cal W (Nat.le_add_left 2 k) hr (pa_cons (pe_ix ix_tup (pv 0) pe_int (fun _ _ => rfl)) (pa_cons pe_int (pa_cons (pe_glob (v := .int 7) (by rfl) mM ⟨_, rfl⟩) pa_nil))))))
      (pw_or1 (pt_not (pt_val (pe_cal T (Nat.le_add_left 1 (k + 1)) hr (pa_cons (pe_ix ix_tup (pv 0) pe_int (fun _ _ => rfl)) (pa_cons pe_int (pa_cons pe_int pa_nil))))))))).pt) pss_never pss_nil)
    (pss_one (ps_for PassesOwn.never rfl (pi_enumT (by rfl) me (pa_cons (pe_ix ix_tup (pv 0) pe_int (fun _ _ => rfl)) pa_nil)) (pg_tup rfl (pgs_cons (pg_name (i := 1) sc14.nd rfl (.inl rfl)) (pgs_cons (pg_name (i := 2) sc14.nd rfl (.inl rfl)) pgs_nil)))
      (pss_cons (ps_if ((pw_or (pt_not (pt_val (pe_cal T (Nat.le_add_left 1 (k + 1)) hr (pa_cons (pv 2) (pa_cons pe_int (pa_cons pe_int pa_nil))))))
          (pw_or1 (pt_not (pt_val (pe_callB (cr_all rfl) (by rfl) ma boot_all (pa_cons (pe_lc (own := [("letter", 3)]) (g := gName 3) (tt := tYes) rfl sc14.nd (pi_tup (pv 2)) (blkOk_by (N := ["company", "index", "pair", "letter"]) (sc := defScope (top 14)) (by decide +kernel))
            (fun _ _ _ _ _ => pg_name (i := 3) sc14.nd rfl (.inl rfl)) (fun _ _ _ _ _ => pts_nil)
            (fun _ _ _ _ _ => pe_cal W (Nat.le_add_left 2 k) hr (pa_cons (pv 3) (pa_cons pe_int (pa_cons (pe_op op_sub (pe_ix (r := rIxT K) ix_tup (pv 0) pe_int (fun _ _ => rfl)) pe_int) pa_nil))))) pa_nil)))))).pt) pss_never pss_nil)
      (pss_one (ps_if ((pw_or (pt_cmpR op_ge (pe_ix ix_tup (pv 2) pe_int (fun _ _ => rfl)) (pe_ix ix_tup (pv 2) pe_int (fun _ _ => rfl)) (nomark _))
        (pw_or1 (pw_and (pt_cmpR op_gt (pv 1) pe_int (nomark _)) (pw_and1 (pt_cmpR (op_leT hr.units0) (pv 2) (pe_ix ix_tup (pe_ix ix_tup (pv 0) pe_int (fun _ _ => rfl)) (pe_op op_sub (pv 1) pe_int) (fun _ _ => rfl)) (nomark _)))).pt)).pt) pss_never pss_nil))))), ?_⟩
  change ps.length ≤ 6 at hlen
  change 1 ≤ n at hn1
  change n ≤ 4 at hn4
  have e0 : ∀ {σ : L2.St} {H1}, Ex H H1 → σ[0]? = some (some x) → EvR (tVar 0) σ H1 rCo (n, ps) := fun e hσ => er_var hσ (mn_co _ _ _ _ e hx) mn_co
  refine q_when (b := false) (et_is (et_or (et_not (et_B (ev_er (er_c3 (er_imp (e0 (Ex.refl _) rfl) fun _ _ _ r => tu_P r) (er_ev (f := V.int) ev_c) (er_ev (f := V.int) ev_c) mn_tu mn_S trivial)))) fun _ =>
    et_or (et_not (et_B (ev_er (er_c3 (er_imp (er_fst (e0 (Ex.refl _) rfl) mn_S fun _ _ => ev_c) fun _ _ _ r => (show rI _ _ (n : Int) from r)) (er_ev (f := V.int) ev_c) (er_ev (f := V.int) ev_c) mn_S mn_S trivial)))) fun _ =>
    et_not (et_B (ev_er (er_c3 (er_imp (er_snd (e0 (Ex.refl _) rfl) (mn_T mn_pr) fun _ _ => ev_c) fun _ _ _ r => tu_T r) (er_ev (f := V.int) ev_c) (er_ev (f := V.int) ev_c) mn_tu mn_S trivial)))) ?_) (fun z => nomatch z) fun _ H1 e1 => ?_
  · have a1 : decide ((1 : Int) ≤ (n : Int)) = true := decide_eq_true (by omega)
    have a2 : decide ((n : Int) ≤ 7) = true := decide_eq_true (by omega)
    have a3 : decide ((0 : Int) ≤ (ps.length : Int)) = true := decide_eq_true (by omega)
    have a4 : decide ((ps.length : Int) ≤ 21) = true := decide_eq_true (by omega)
    rw [a1, a2, a3, a4]
    rfl
  · refine (er_snd (K := K) (e0 e1 rfl) (mn_T mn_pr) fun _ _ => ev_c) H1 (Ex.refl _) _ fun v H2 e2 r => ?_
    obtain ⟨p, us, rfl, hp, hus⟩ := r
    refine ⟨p, us, rfl, st_of hp, for_it walk_enumT (fun i σ' H' => Ex H2 H' ∧ ∃ y1 y2 y3, σ' = [some x, y1, y2, y3]) ⟨Ex.refl _, _, _, _, rfl⟩ (fun i σ' H' _ pp => st_of (pp.1 _ _ hp)) (fun i v σ' H' H3 hi pp y => ?_) fun σ' H' pp => q .non H' ((e1.trans e2).trans pp.1) rfl⟩
    obtain ⟨e3, y1, y2, y3, rfl⟩ := pp
    obtain ⟨T, z1, z2, rfl, hT, rfl, hz1, hz2⟩ := y
    cases hz1
    obtain ⟨pr, hpr, rpr⟩ := pd_get hus hz2
    have e4 : Ex H2 (upd H' T (.tup [.int (i : Nat), z2])) := e3.trans (Ex.new hT)
    generalize hH4 : upd H' T (.tup [.int (i : Nat), z2]) = H4 at e4 ⊢
    have hT4 : H4 T = some (.tup [.int (i : Nat), z2]) := by rw [← hH4]; exact upd_same
    refine ⟨T, _, rfl, st_of hT4, rfl, _, _, rfl, _, _, rfl, rfl, ?_⟩
    show tSeq _ _ _ [some x, some (.int (i : Nat)), some z2, y3] H4
    have eH : Ex H H4 := (e1.trans e2).trans e4
    have r2 : rPr H4 z2 pr := mn_pr _ _ _ _ e4 rpr
    obtain ⟨hlt, hlt2⟩ := hin pr (List.mem_of_getElem? hpr)
    refine q_when (b := false) (et_is (et_or (et_not (et_B (ev_er (er_c3 (er_imp (er_var rfl r2 mn_pr) fun _ _ _ r => tu_P r) (er_ev (f := V.int) ev_c) (er_ev (f := V.int) ev_c) mn_tu mn_S trivial)))) fun _ =>
      et_not (et_B (ev_allL (er_lc (R := rN) (as := [pr.1, pr.2]) (fun _ => true) (fun a => decide ((0 : Int) ≤ (a : Int)) && decide ((a : Int) ≤ (n : Int) - 1)) (ei_pair (er_var rfl r2 mn_pr)) mt_S (by show 2 ≤ 40000; omega) tg_name fun a v H5 e5 ha ra => ⟨rfl, fun _ _ _ q => q _ (Ex.refl _), fun _ => ?_⟩)))) ?_) (fun z => nomatch z) fun _ H5 e5 => ?_
    · exact er_c3 (er_imp (er_var rfl ra mn_S) fun _ _ _ r => (show rI _ _ (a : Int) from r)) (er_ev (f := V.int) ev_c) (er_ev (f := V.int) (ev_op (ev_vr (er_fst (e0 (eH.trans e5) rfl) mn_S fun _ _ => ev_c) rfl) ev_c rv_I0)) mn_S mn_S trivial
    · have hm : ((List.filter (fun _ => true) [pr.1, pr.2]).map fun a : Nat => decide ((0 : Int) ≤ (a : Int)) && decide ((a : Int) ≤ (n : Int) - 1)).all id = true := by
        have b1 : decide ((0 : Int) ≤ (pr.1 : Int)) = true := decide_eq_true (by omega)
        have b2 : decide ((0 : Int) ≤ (pr.2 : Int)) = true := decide_eq_true (by omega)
        have b3 : decide ((pr.1 : Int) ≤ (n : Int) - 1) = true := decide_eq_true (by simp only at hlt2; omega)
        have b4 : decide ((pr.2 : Int) ≤ (n : Int) - 1) = true := decide_eq_true (by simp only at hlt2; omega)
        simp [b1, b2, b3, b4]
      rw [hm]
      rfl
    · have r3 : rPr H5 z2 pr := mn_pr _ _ _ _ e5 r2
      refine s_when (b := false) (et_is (et_or (et_test (ev_op (ev_vr (er_fst (er_var rfl r3 mn_pr) mn_S fun _ _ => ev_c) rfl) (ev_vr (er_snd (er_var rfl r3 mn_pr) mn_S fun _ _ => ev_c) rfl) rv_I0)) fun _ =>
        et_and (b := false) (et_test (ev_op (ev_var rfl) ev_c rv_I0)) fun hi0 => et_test ?_) ?_) (fun z => nomatch z) fun _ H6 e6 => ?_
      · have hi1 : 0 < i := by
          have := of_decide_eq_true hi0
          omega
        have him : i < us.length := hi
        have hlu := hus.length
        obtain ⟨pq, hpq⟩ : ∃ pq, ps[i - 1]? = some pq := ⟨_, List.getElem?_eq_getElem (by omega)⟩
        have hcmp := hup (i - 1) pq pr hpq (by rw [show i - 1 + 1 = i by omega]; exact hpr)
        have hbk : Ev (tOp (rI0 fun i j => V.int (i - j)) (tVar 1) (tC (.int 1))) [some x, some (.int (i : Nat)), some z2, y3] H5 (.int ((i - 1 : Nat) : Int)) := by
          have := ev_op (ta := tVar 1) (tb := tC (.int 1)) (σ := [some x, some (.int (i : Nat)), some z2, y3]) (H := H5) (ev_var (v := .int (i : Nat)) rfl) ev_c (rv_I0 (g := fun i j => V.int (i - j)) (i := (i : Nat)) (j := 1))
          rw [show ((i : Nat) : Int) - 1 = ((i - 1 : Nat) : Int) by omega] at this
          exact this
        refine ev_er (f := V.bl) (er_op (er_var rfl r3 mn_pr) (er_ixT (er_snd (e0 (eH.trans e5) rfl) (mn_T mn_pr) fun _ _ => ev_c) mn_pr (fun H6 e6 => hbk.mono e6) hpq) mn_pr fun a b H6 e6 ra rb Q' q' => ?_)
        obtain ⟨pa, xa, ya, rfl, hpa, hxa, hya⟩ := ra
        obtain ⟨pb, xb, yb, rfl, hpb, hxb, hyb⟩ := rb
        cases hxa
        cases hya
        cases hxb
        cases hyb
        refine ⟨pa, pb, [(pr.1 : Int), (pr.2 : Int)], [(pq.1 : Int), (pq.2 : Int)], rfl, rfl, st_of hpa, st_of hpb, q' _ H6 (Ex.refl _) ?_⟩
        show V.bl _ = V.bl false
        congr 1
        show Ob.lexAt (fun j => decide (([(pr.1 : Int), (pr.2 : Int)] : List Int).getD j 0 = ([(pq.1 : Int), (pq.2 : Int)] : List Int).getD j 0)) (fun j => decide (([(pr.1 : Int), (pr.2 : Int)] : List Int).getD j 0 ≤ ([(pq.1 : Int), (pq.2 : Int)] : List Int).getD j 0)) (decide (2 ≤ 2)) 0 2 = false
        rw [lexAt2]
        rcases hcmp with h1 | ⟨h1, h2⟩
        · rw [if_neg (by show ¬ decide ((pr.1 : Int) = (pq.1 : Int)) = true; simp; omega)]
          show decide ((pr.1 : Int) ≤ (pq.1 : Int)) = false
          exact decide_eq_false (by omega)
        · rw [if_pos (by show decide ((pr.1 : Int) = (pq.1 : Int)) = true; simp; omega), if_neg (by show ¬ decide ((pr.2 : Int) = (pq.2 : Int)) = true; simp; omega)]
          show decide ((pr.2 : Int) ≤ (pq.2 : Int)) = false
          exact decide_eq_false (by omega)
      · have : decide ((pr.2 : Int) ≤ (pr.1 : Int)) = false := decide_eq_false (by omega)
        rw [this, Bool.and_false]
        rfl
      · exact ⟨e4.trans (e5.trans e6), _, _, _, rfl⟩
end
end F1
set_option Elab.async false
set_option linter.all false
set_option maxRecDepth 100000
set_option maxHeartbeats 1000000
namespace F1
open PySem PySem.Spec PyProof.Rows L2 Evl
/-- the first n letters, by code -/
def alph (n : Nat) : List Nat := (List.range n).map (97 + ·)
theorem cut_alph : ∀ n : Nat, n ≤ 7 → cutS ("abcdefg" : Str) none (some (n : Int)) = tx (alph n)
  | 0, _ => by decide +kernel
  | 1, _ => by decide +kernel
  | 2, _ => by decide +kernel
  | 3, _ => by decide +kernel
  | 4, _ => by decide +kernel
  | 5, _ => by decide +kernel
  | 6, _ => by decide +kernel
  | 7, _ => by decide +kernel
  | n + 8, h => by omega
section
variable {K : PySem.W.Frag} {σ : L2.St} {H : Hp} {te ta tb tc : TE}
theorem er_alph {n : Nat} (h : Ev te σ H (.str ("abcdefg" : Str))) (hi : ∀ H1, Ex H H1 → Ev ta σ H1 (.int (n : Int))) (hn : n ≤ 7) : EvR (tSl rSlS te tNoPart (tPart ta)) σ H rX (alph n) := fun H1 e Q q =>
  h H1 e _ fun H2 e2 => hi H2 (e.trans e2) H2 (Ex.refl _) _ fun H3 e3 => ⟨(n : Int), rfl, ("abcdefg" : Str), rfl, (by decide +kernel), by
    rw [cut_alph n hn]
    exact q _ H3 (e2.trans e3) rfl⟩
theorem ev_in {c : Nat} {l : List Nat} (h1 : EvR ta σ H rC c) (h2 : EvR tb σ H rX l) : Ev (tOp rInS ta tb) σ H (.bl (decide (c ∈ l))) := ev_er (f := V.bl) (er_op h1 h2 mn_S fun x y H1 e rx ry Q q => by
  cases rx
  cases ry
  exact ⟨c, tx l, rfl, rfl, q _ H1 (Ex.refl _) rfl⟩)
theorem ev_ni {c : Nat} {l : List Nat} (h1 : EvR ta σ H rC c) (h2 : EvR tb σ H rX l) : Ev (tOp rNotInS ta tb) σ H (.bl (!decide (c ∈ l))) := ev_er (f := V.bl) (er_op h1 h2 mn_S fun x y H1 e rx ry Q q => by
  cases rx
  cases ry
  exact ⟨c, tx l, rfl, rfl, q _ H1 (Ex.refl _) rfl⟩)
theorem er_ixX {c n : Nat} {l : List Nat} (h1 : EvR ta σ H rX l) (h2 : EvR tb σ H rN n) (hl : l.length ≤ 100000) (hc : l[n]? = some c) : EvR (tOp rIxS ta tb) σ H rC c := er_op h1 h2 mn_S fun x y H1 e rx ry Q q => by
  cases rx
  cases ry
  exact ⟨tx l, n, c, rfl, rfl, sz_of (by simpa [Str.length] using hl), atI_nat hc, q _ H1 (Ex.refl _) rfl⟩
theorem all_true {bs : List Bool} (h : ∀ b ∈ bs, b = true) : bs.all id = true := List.all_eq_true.mpr fun b hb => h b hb
theorem len_tx (l : List Nat) : (tx l).length = l.length := by simp [Str.length]
theorem er_lenX {l : List Nat} (hl : l.length ≤ 100000) (h : EvR te σ H rX l) : EvR (tCB (fun xs H Q => ∃ z, xs = [.str z] ∧ z.length ≤ sizeLine ∧ Q (.int z.length) H) (tCons te tNil)) σ H rN l.length :=
  er_ev (f := fun n : Nat => V.int (n : Int)) (ev_lenX hl (ev_er h))
theorem et_isN {v : V} (h : Ev ta σ H v) : EvT (tTest (tOp rIsN ta (tC .non))) σ H (decide (v = .non)) := et_test (ev_op h ev_c (rv_val fun H1 _ Q q => ⟨rfl, q⟩))
end
section
variable {P : Program} {w : World} {K : PySem.W.Frag} {mg : Str → Option Value} {base : Heap} {f : Addr} {fd : FuncData} {k : Nat}
/-! ### is_word, need_word -/
theorem sc15 : FnScope ["company", "value", "most", "sign"] ["company", "value", "most"] (defScope (top 15)) := ⟨rfl, rfl, rfl, by decide +kernel, rfl, by decide +kernel, by decide +kernel⟩
abbrev spIsW : Sp := sp3 rCo rX rI (fun c l m => OkC c ∧ 1 ≤ l.length ∧ (l.length : Int) ≤ m ∧ l.length ≤ 1000 ∧ ∀ x ∈ l, x ∈ alph c.1) rBl fun _ _ _ => true
theorem ok_isW {tA : Tok} (F : Fun K "is_word" "is_word" (top 15) f fd) (mi : mg "isinstance" = none) (ms : mg "str" = none) (ml : mg "len" = none) (ma : mg "all" = none) (mA : mg "ALPHABET" = some (.str "abcdefg" tA)) : FnOk P w K mg base CX0 (k + 1) f fd ["company", "value", "most"] spIsW := by
  refine F.ok sc15 (fun vs H Q E h => ?_) (fun cdv A outer s H vs Q E hr h => ?_)
  · obtain ⟨x, y, z, a, b, c, rfl, _⟩ := h
    rfl
  obtain ⟨x, y, z, ⟨n, ps⟩, l, m, rfl, hx, hy, hz, ⟨hC, h1, hm, h1000, hin⟩, q⟩ := h
  cases hy
  cases hz
  refine ⟨_, pss_cons (ps_if ((pw_or (pt_not (pt_val (pe_callB call_isi (by rfl) mi boot_isinstance (pa_cons (pv 1) (pa_cons (pe_bltn (v := .ty "str") (u := .type "str") (by rfl) ms (by decide +kernel) rfl) pa_nil)))))
      (pw_or1 (pt_not (pt_chain op_le op_le pe_int (pe_callB call_len_str (by rfl) ml boot_len (pa_cons (pv 1) pa_nil)) (pv 2))))).pt) pss_never pss_nil)
    (pss_one (ps_ret (pe_callB (cr_all rfl) (by rfl) ma boot_all (pa_cons (pe_lc (own := [("sign", 3)]) (g := gName 3) (tt := tYes) rfl sc15.nd (pi_str (pv 1)) (blkOk_by (N := ["company", "value", "most", "sign"]) (sc := defScope (top 15)) (by decide +kernel))
        (fun _ _ _ _ _ => pg_name (i := 3) sc15.nd rfl (.inl rfl)) (fun _ _ _ _ _ => pts_nil)
        (fun _ _ _ _ _ => pe_cmpR op_inS (pv 3) (pe_slice sl_str (pe_glob (v := .str "abcdefg") (by rfl) mA ⟨_, rfl⟩) po_none (po_some (pe_ix (r := rIxT K) ix_tup (pv 0) pe_int (fun _ _ => rfl)))) (by rfl))) pa_nil)))), ?_⟩
  refine q_when (b := false) (et_is (et_or (et_not (et_B (ev_isi (b := true) (ev_var rfl) (fun H1 _ => .base (.str (tx l))) (kit_ty (by decide +kernel))))) fun _ =>
    et_not (et_test (ev_chain (a := decide ((1 : Int) ≤ (l.length : Int))) (b := decide ((l.length : Int) ≤ m)) ev_c (ev_lenX (by omega) (ev_var rfl)) (ev_var rfl) rv_I0 rv_I0))) ?_) (fun z => nomatch z) fun _ H1 e1 => ?_
  · rw [decide_eq_true (show (1 : Int) ≤ (l.length : Int) by omega), decide_eq_true hm]
    rfl
  · refine s_ret (ev_allL (er_lc (R := rC) (as := l) (fun _ => true) (fun a => decide (a ∈ alph n)) (ei_str (er_var rfl rfl mn_S)) mt_S (by omega) tg_name fun a v H5 e5 ha ra => ⟨rfl, fun _ _ _ q => q _ (Ex.refl _), fun _ =>
      er_ev (ev_in (er_var rfl ra mn_S) (er_alph ev_c (fun H6 e6 => ev_vr (er_fst (er_var rfl (mn_co _ _ _ _ ((e1.trans e5).trans e6) hx) mn_co) mn_S fun _ _ => ev_c) rfl) (by have := hC.1.2; show n ≤ 7; omega)))⟩)) fun H2 e2 => q _ _ (e1.trans e2) ?_
    show V.bl _ = V.bl true
    congr 1
    refine all_true fun b hb => ?_
    obtain ⟨a, ha, rfl⟩ := List.mem_map.mp hb
    exact decide_eq_true (hin a (List.mem_filter.mp ha).1)
theorem sc16 : FnScope ["company", "word"] ["company", "word"] (defScope (top 16)) := ⟨rfl, rfl, rfl, by decide +kernel, rfl, by decide +kernel, by decide +kernel⟩
abbrev spNeedW : Sp := sp2 rCo rX (fun c l => OkC c ∧ 1 ≤ l.length ∧ l.length ≤ 60 ∧ ∀ x ∈ l, x ∈ alph c.1) rU fun _ _ => ()
theorem ok_needW {g : Addr} {gd : FuncData} {tM : Tok} (F : Fun K "need_word" "need_word" (top 16) f fd) (W : Cal P w K mg base 1 "is_word" g gd ["company", "value", "most"] spIsW) (mM : mg "MOST_WORD" = some (.int 60 tM)) : FnOk P w K mg base CX0 (k + 2) f fd ["company", "word"] spNeedW := by
  refine F.ok sc16 (fun vs H Q E h => ?_) (fun cdv A outer s H vs Q E hr h => ?_)
  · obtain ⟨x, y, a, b, rfl, _⟩ := h
    rfl
  obtain ⟨x, y, a, b, rfl, hx, hy, ⟨h1, h2, h3, h4⟩, q⟩ := h
  refine ⟨_, pss_one (ps_if (pt_not (pt_val (pe_cal W (Nat.le_add_left 1 k) hr (pa_cons (pv 0) (pa_cons (pv 1) (pa_cons (pe_glob (v := .int 60) (by rfl) mM ⟨_, rfl⟩) pa_nil)))))) pss_never pss_nil), ?_⟩
  exact s_when (et_false (et_not (et_B (ev_er (er_c3 (er_var rfl hx mn_co) (er_var rfl hy mn_S) (er_ev (f := V.int) ev_c) mn_co mn_S ⟨h1, h2, by omega, by omega, h4⟩)))) rfl) (fun z => nomatch z) fun _ H1 e => q _ H1 e rfl
/-! ### is_set, need_set -/
theorem sc17 : FnScope ["company", "value", "sign", "at"] ["company", "value"] (defScope (top 17)) := ⟨rfl, rfl, rfl, by decide +kernel, rfl, by decide +kernel, by decide +kernel⟩
def OkS (c : Nat × List (Nat × Nat)) (l : List Nat) : Prop := OkC c ∧ l.length ≤ c.1 ∧ (∀ x ∈ l, x ∈ alph c.1) ∧ ∀ i a b, l[i]? = some a → l[i + 1]? = some b → a < b
abbrev spIsS : Sp := sp2 rCo rX OkS rBl fun _ _ => true
theorem ok_isS {tA : Tok} (F : Fun K "is_set" "is_set" (top 17) f fd) (mi : mg "isinstance" = none) (ms : mg "str" = none) (ml : mg "len" = none) (ma : mg "all" = none) (mr : mg "range" = none) (mA : mg "ALPHABET" = some (.str "abcdefg" tA)) : FnOk P w K mg base CX0 (k + 1) f fd ["company", "value"] spIsS := by
  refine F.ok sc17 (fun vs H Q E h => ?_) (fun cdv A outer s H vs Q E hr h => ?_)
  · obtain ⟨x, y, a, b, rfl, _⟩ := h
    rfl
  obtain ⟨x, y, ⟨n, ps⟩, l, rfl, hx, hy, ⟨hC, hl, hin, hup⟩, q⟩ := h
  cases hy
  change l.length ≤ n at hl
  have hn4 : n ≤ 4 := hC.1.2
  refine ⟨_, pss_cons (ps_if ((pw_or (pt_not (pt_val (pe_callB call_isi (by rfl) mi boot_isinstance (pa_cons (pv 1) (pa_cons (pe_bltn (v := .ty "str") (u := .type "str") (by rfl) ms (by decide +kernel) rfl) pa_nil)))))
      (pw_or1 (pt_cmpR op_gt (pe_callB call_len_str (by rfl) ml boot_len (pa_cons (pv 1) pa_nil)) (pe_ix ix_tup (pv 0) pe_int (fun _ _ => rfl)) (nomark _)))).pt) pss_never pss_nil)
    (pss_cons (ps_if (pt_not (pt_val (pe_callB (cr_all rfl) (by rfl) ma boot_all (pa_cons (pe_lc (own := [("sign", 2)]) (g := gName 2) (tt := tYes) rfl sc17.nd (pi_str (pv 1)) (blkOk_by (N := ["company", "value", "sign", "at"]) (sc := defScope (top 17)) (by decide +kernel))
        (fun _ _ _ _ _ => pg_name (i := 2) sc17.nd rfl (.inl rfl)) (fun _ _ _ _ _ => pts_nil)
        (fun _ _ _ _ _ => pe_cmpR op_inS (pv 2) (pe_slice sl_str (pe_glob (v := .str "abcdefg") (by rfl) mA ⟨_, rfl⟩) po_none (po_some (pe_ix (r := rIxT K) ix_tup (pv 0) pe_int (fun _ _ => rfl)))) (by rfl))) pa_nil)))) pss_never pss_nil)
    (pss_one (ps_ret (pe_callB (cr_all rfl) (by rfl) ma boot_all (pa_cons (pe_lc (own := [("at", 3)]) (g := gName 3) (tt := tYes) rfl sc17.nd (pi_range1 (by rfl) mr (pa_cons (pe_op op_sub (pe_callB call_len_str (by rfl) ml boot_len (pa_cons (pv 1) pa_nil)) pe_int) pa_nil))
        (blkOk_by (N := ["company", "value", "sign", "at"]) (sc := defScope (top 17)) (by decide +kernel))
        (fun _ _ _ _ _ => pg_name (i := 3) sc17.nd rfl (.inl rfl)) (fun _ _ _ _ _ => pts_nil)
        (fun _ _ _ _ _ => pe_cmpR op_lt_str (pe_ix ix_str (pv 1) (pv 3) (fun _ _ => rfl)) (pe_ix ix_str (pv 1) (pe_op op_add (pv 3) pe_int) (fun _ _ => rfl)) (nomark _))) pa_nil))))), ?_⟩
  refine q_when (b := false) (et_is (et_or (et_not (et_B (ev_isi (b := true) (ev_var rfl) (fun H1 _ => .base (.str (tx l))) (kit_ty (by decide +kernel))))) fun _ =>
    et_test (ev_op (ev_lenX (by omega) (ev_var rfl)) (ev_vr (er_fst (er_var rfl hx mn_co) mn_S fun _ _ => ev_c) rfl) rv_I0)) ?_) (fun z => nomatch z) fun _ H1 e1 => ?_
  · rw [decide_eq_false (show ¬ (n : Int) < (l.length : Int) by omega)]
    rfl
  · refine q_when (b := false) (et_is (et_not (et_B (ev_allL (er_lc (R := rC) (as := l) (fun _ => true) (fun a => decide (a ∈ alph n)) (ei_str (er_var rfl rfl mn_S)) mt_S (by omega) tg_name fun a v H5 e5 ha ra => ⟨rfl, fun _ _ _ q => q _ (Ex.refl _), fun _ =>
      er_ev (ev_in (er_var rfl ra mn_S) (er_alph ev_c (fun H6 e6 => ev_vr (er_fst (er_var rfl (mn_co _ _ _ _ ((e1.trans e5).trans e6) hx) mn_co) mn_S fun _ _ => ev_c) rfl) (by omega)))⟩)))) ?_) (fun z => nomatch z) fun _ H2 e2 => ?_
    · rw [all_true fun b hb => ?_]
      · rfl
      · obtain ⟨a, ha, rfl⟩ := List.mem_map.mp hb
        exact decide_eq_true (hin a (List.mem_filter.mp ha).1)
    · have hrg : ∀ H3, Ev (tOp (rI0 fun i j => V.int (i - j)) (tCB (fun xs H Q => ∃ z, xs = [.str z] ∧ z.length ≤ sizeLine ∧ Q (.int z.length) H) (tCons (tVar 1) tNil)) (tC (.int 1))) [some x, some (.str (tx l)), none, none] H3 (.int ((l.length : Int) - 1)) :=
        fun H3 => ev_op (ev_lenX (by omega) (ev_var rfl)) ev_c rv_I0
      have hI : EvI (iRng1 (tCons (tOp (rI0 fun i j => V.int (i - j)) (tCB (fun xs H Q => ∃ z, xs = [.str z] ∧ z.length ≤ sizeLine ∧ Q (.int z.length) H) (tCons (tVar 1) tNil)) (tC (.int 1))) tNil)) [some x, some (.str (tx l)), none, none] H2 rN (List.range (l.length - 1)) := by
        cases l with
        | nil =>
          refine fun H3 e3 Q q => hrg H2 H3 e3 _ fun H4 e4 => ⟨-1, rfl, by omega, by omega, q _ H4 e4 ⟨YFn fun i => .int ((0 : Int) + i), walk_range.mono (fun _ _ => trivial) fun _ _ _ _ _ _ y => y, fun i H' x H'' hi => ?_⟩⟩
          exact absurd hi (by simp)
        | cons c r =>
          refine ei_rng (ea_cons ?_ ea_nil) (by omega)
          have := hrg H2
          rw [show (((c :: r).length : Nat) : Int) - 1 = (((c :: r).length - 1 : Nat) : Int) by simp] at this
          exact this
      refine s_ret (ev_allL (er_lc (R := rN) (as := List.range (l.length - 1)) (fun _ => true) (fun _ => true) hI mt_S (by simp; omega) tg_name fun a v H5 e5 ha ra => ⟨rfl, fun _ _ _ q => q _ (Ex.refl _), fun _ => ?_⟩)) fun H3 e3 => q _ _ ((e1.trans e2).trans e3) ?_
      · have hal : a < l.length - 1 := List.mem_range.mp ha
        obtain ⟨c1, hc1⟩ : ∃ c, l[a]? = some c := ⟨_, List.getElem?_eq_getElem (by omega)⟩
        obtain ⟨c2, hc2⟩ : ∃ c, l[a + 1]? = some c := ⟨_, List.getElem?_eq_getElem (by omega)⟩
        cases ra
        refine er_op (er_ixX (er_var rfl (a := l) rfl mn_S) (er_var rfl (a := a) rfl mn_S) (by omega) hc1) (er_ixX (er_var rfl (a := l) rfl mn_S) (er_ev (f := fun n : Nat => V.int (n : Int)) (ev_op (ev_var rfl) ev_c rv_I0)) (by omega) hc2) mn_S fun x y H6 e6 rx ry Q q => ?_
        cases rx
        cases ry
        refine ⟨_, _, rfl, rfl, q _ H6 (Ex.refl _) ?_⟩
        show V.bl (decide (([c1] : List Nat) < [c2])) = V.bl true
        congr 1
        exact decide_eq_true (List.Lex.rel (hup a c1 c2 hc1 hc2))
      · show V.bl _ = V.bl true
        congr 1
        refine all_true fun b hb => ?_
        obtain ⟨a, ha, rfl⟩ := List.mem_map.mp hb
        rfl
theorem sc18 : FnScope ["company", "letters"] ["company", "letters"] (defScope (top 18)) := ⟨rfl, rfl, rfl, by decide +kernel, rfl, by decide +kernel, by decide +kernel⟩
abbrev spNeedS : Sp := sp2 rCo rX OkS rU fun _ _ => ()
theorem ok_needS {g : Addr} {gd : FuncData} (F : Fun K "need_set" "need_set" (top 18) f fd) (W : Cal P w K mg base 1 "is_set" g gd ["company", "value"] spIsS) : FnOk P w K mg base CX0 (k + 2) f fd ["company", "letters"] spNeedS := by
  refine F.ok sc18 (fun vs H Q E h => ?_) (fun cdv A outer s H vs Q E hr h => ?_)
  · obtain ⟨x, y, a, b, rfl, _⟩ := h
    rfl
  obtain ⟨x, y, a, b, rfl, hx, hy, hG, q⟩ := h
  refine ⟨_, pss_one (ps_if (pt_not (pt_val (pe_cal W (Nat.le_add_left 1 k) hr (pa_cons (pv 0) (pa_cons (pv 1) pa_nil))))) pss_never pss_nil), ?_⟩
  exact s_when (et_false (et_not (et_B (ev_er (er_c2 (er_var rfl hx mn_co) (er_var rfl hy mn_S) mn_co hG)))) rfl) (fun z => nomatch z) fun _ H1 e => q _ H1 e rfl
/-! ### power -/
theorem iop_mulW {X : Cx} : OpR X (inplaceOp .Mult) (L2.rI CMulW fun i j => .int (i * j)) := opI fun _ _ _ _ _ _ _ hc q => imul_int q hc.ok
theorem cmulW {a b : Nat} (ha : a < 2 ^ 130) (hb : b < 2 ^ 130) : CMulW (a : Int) (b : Int) := wide_mul (a := 130) (b := 130) (by simpa using ha) (by simpa using hb) (by omega) (by omega) (by omega)
theorem sc19 : FnScope ["base", "exponent", "found", "turn"] ["base", "exponent"] (defScope (top 19)) := ⟨rfl, rfl, rfl, by decide +kernel, rfl, by decide +kernel, by decide +kernel⟩
abbrev spPow : Sp := sp2 rN rN (fun b e => b ≤ 4 ∧ e ≤ 60) rN fun b e => b ^ e
theorem pow_lt {b e : Nat} (hb : b ≤ 4) (he : e ≤ 60) : b ^ e < 2 ^ 130 := by
  have h1 : b ^ e ≤ 4 ^ e := Nat.pow_le_pow_left hb e
  have h2 : 4 ^ e ≤ 4 ^ 60 := Nat.pow_le_pow_right (by omega) he
  have h3 : (4 : Nat) ^ 60 < 2 ^ 130 := by decide +kernel
  omega
theorem ok_pow (F : Fun K "power" "power" (top 19) f fd) (mr : mg "range" = none) : FnOk P w K mg base CX0 (k + 1) f fd ["base", "exponent"] spPow := by
  refine F.ok sc19 (fun vs H Q E h => ?_) (fun cdv A outer s H vs Q E hr h => ?_)
  · obtain ⟨x, y, a, b, rfl, _⟩ := h
    rfl
  obtain ⟨x, y, b, e, rfl, hx, hy, ⟨hb, he⟩, q⟩ := h
  cases hx
  cases hy
  refine ⟨_, pss_cons (ps_set (i := 2) sc19.nd rfl (.inl rfl) pe_int) (pss_cons (ps_for PassesOwn.never rfl (pi_range1 (by rfl) mr (pa_cons (pv 1) pa_nil)) (pg_name (i := 3) sc19.nd rfl (.inl rfl))
    (pss_one (ps_aug (i := 2) sc19.nd rfl (.inl rfl) (pv 0) iop_mulW))) (pss_one (ps_ret (pv 2)))), ?_⟩
  refine q_asg ev_c fun H1 e1 => ?_
  refine r_forN (R := rN) (as := List.range e) (fun i σ' H' => ∃ y3, σ' = [some (.int (b : Int)), some (.int (e : Int)), some (.int ((b ^ i : Nat) : Int)), y3]) (ei_rng (ea_cons (ev_var rfl) ea_nil) (by omega)) tg_name (fun _ _ => ⟨_, rfl⟩) (fun H2 e2 i a v σ' H' e3 ha ra hJ => ?_) (fun _ _ _ _ _ h => h) fun σ' H' e2 hJ => ?_
  · obtain ⟨y3, rfl⟩ := hJ
    have hi : i < e := by
      have := (List.getElem?_eq_some_iff.mp ha).1
      simpa using this
    refine ⟨_, rfl, (ev_var (v := .int (b : Int)) rfl) H' (Ex.refl _) _ fun H4 e4 => ⟨_, _, rfl, rfl, cmulW (pow_lt hb (by omega)) (by have := pow_lt (b := 4) (e := 1) (by omega) (by omega); omega), e3.trans e4, some v, ?_⟩⟩
    show [some (V.int (b : Int)), some (.int (e : Int)), some (.int (((b ^ i : Nat) : Int) * (b : Int))), some v] = _
    rw [Nat.pow_succ, Int.natCast_mul]
  · obtain ⟨y3, rfl⟩ := hJ
    rw [List.length_range]
    exact s_ret (ev_var rfl) fun H3 e3 => q _ _ ((e1.trans e2).trans e3) rfl
end
end F1
set_option Elab.async false
set_option linter.all false
set_option maxRecDepth 100000
set_option maxHeartbeats 1000000
namespace F1
open PySem PySem.Spec PyProof.Rows L2 Evl
/-! ### == of a list and the empty one -/
abbrev prD2 (p : Nat × Nat) : PyData := .tuple [.int p.1, .int p.2]
theorem lay_all {β : Type} {d : β → PyData} (h : ∀ b, (d b).canLay0 = true) : ∀ bs : List β, PyData.canLayAll0 (bs.map d) = true
  | [] => by simp [PyData.canLayAll0]
  | b :: bs => by simp [PyData.canLayAll0, h b, lay_all h bs]
theorem depth_all {β : Type} {d : β → PyData} {n : Nat} (h : ∀ b, (d b).depth ≤ n) : ∀ bs : List β, PyData.depthAll (bs.map d) ≤ n
  | [] => by simp [PyData.depthAll]
  | b :: bs => by
    have h1 := h b
    have h2 := depth_all h bs
    simp only [List.map_cons, PyData.depthAll]
    omega
theorem shaped_list {ds : List PyData} (h1 : PyData.canLayAll0 ds = true) (h2 : PyData.depthAll ds ≤ 60) : SeqAt.shaped (.list ds) = true := by
  show (PyData.canLay0 (.list ds) && decide (PyData.depth (.list ds) ≤ 64)) = true
  rw [Bool.and_eq_true]
  exact ⟨by simp only [PyData.canLay0]; exact h1, decide_eq_true (by simp only [PyData.depth]; omega)⟩
theorem shaped_tup {ds : List PyData} (h1 : PyData.canLayAll0 ds = true) (h2 : PyData.depthAll ds ≤ 60) : SeqAt.shaped (.tuple ds) = true := by
  show (PyData.canLay0 (.tuple ds) && decide (PyData.depth (.tuple ds) ≤ 64)) = true
  rw [Bool.and_eq_true]
  exact ⟨by simp only [PyData.canLay0]; exact h1, decide_eq_true (by simp only [PyData.depth]; omega)⟩
theorem dpAll_of {K : PySem.W.Frag} {H : Hp} {β : Type} {R : Rl β} {d : β → PyData} (h : ∀ v b, R H v b → Dp K H v (d b)) : ∀ {us : List V} {bs : List β}, Paired (R H) us bs → DpAll K H us (bs.map d)
  | _, _, .nil => .nil
  | _, _, .cons r t => .cons (h _ _ r) (dpAll_of h t)
theorem dp_pr {K : PySem.W.Frag} {H : Hp} {v : V} {p : Nat × Nat} (h : rPr H v p) : Dp K H v (prD2 p) := by
  obtain ⟨a, x, y, rfl, ha, hx, hy⟩ := h
  cases hx
  cases hy
  exact .tup (st_of ha) (.cons (.int _) (.cons (.int _) .nil))
theorem prD2_lay (p : Nat × Nat) : (prD2 p).canLay0 = true := by simp [prD2, PyData.canLay0, PyData.canLayAll0]
theorem prD2_depth (p : Nat × Nat) : (prD2 p).depth ≤ 1 := by simp [prD2, PyData.depth, PyData.depthAll]
theorem ev_eq0 {K : PySem.W.Frag} {te : TE} {σ : L2.St} {H : Hp} {β : Type} {R : Rl β} {d : β → PyData} {bs : List β} (h : EvR te σ H (rL R) bs) (m : Mn R) (hd : ∀ H v b, R H v b → Dp K H v (d b)) (hs : SeqAt.shaped (.list (bs.map d)) = true) :
    Ev (tOp (rEqD K) te (tLst tNil)) σ H (.bl (decide (bs = []))) := ev_er (f := V.bl) (er_op h er_lst0 (mn_L m) fun x y H1 e rx ry Q q => by
  obtain ⟨p, us, rfl, hp, hu⟩ := rx
  obtain ⟨p', us', rfl, hp', hu'⟩ := (show rL R H1 y [] from ry)
  cases hu'
  refine ⟨.list (bs.map d), .list [], .lst (sq_of hp) (dpAll_of (hd H1) hu), .lst (sq_of hp') .nil, hs, by decide +kernel, q _ H1 (Ex.refl _) ?_⟩
  show V.bl _ = V.bl _
  congr 1
  cases bs with
  | nil => simp [PyData.eqv, PyData.eqvAll]
  | cons b r => simp [PyData.eqv, PyData.eqvAll])
/-! ### all_sets -/
/-- each set of the letters of l, in the order of the program -/
def setsK (l : List Nat) : List (List Nat) := l.foldl (fun acc s => acc ++ acc.map (· ++ [s])) [[]]
def allSets (n : Nat) : List (List Nat) := setsK (alph n)
theorem setsK_snoc (l : List Nat) (s : Nat) : setsK (l ++ [s]) = setsK l ++ (setsK l).map (· ++ [s]) := by
  unfold setsK
  rw [List.foldl_append] <;> rfl
theorem setsK_le : ∀ n (l : List Nat), l.length ≤ n → (setsK l).length = 2 ^ l.length ∧ ∀ x ∈ setsK l, x.length ≤ l.length := by
  intro n
  induction n with
  | zero =>
    intro l hl
    have : l = [] := List.length_eq_zero_iff.mp (by omega)
    subst this
    exact ⟨rfl, fun x hx => by simp [setsK] at hx; simp [hx]⟩
  | succ n ih =>
    intro l hl
    rcases List.eq_nil_or_concat l with rfl | ⟨r, s, rfl⟩
    · exact ⟨rfl, fun x hx => by simp [setsK] at hx; simp [hx]⟩
    · have hr : r.length ≤ n := by
        simp at hl
        exact hl
      obtain ⟨h1, h2⟩ := ih r hr
      rw [List.concat_eq_append, setsK_snoc]
      refine ⟨?_, fun x hx => ?_⟩
      · rw [List.length_append, List.length_map, h1, List.length_append, List.length_singleton, Nat.pow_succ]
        omega
      · rw [List.length_append, List.length_singleton]
        rcases List.mem_append.mp hx with hx | hx
        · have := h2 x hx
          omega
        · obtain ⟨y, hy, rfl⟩ := List.mem_map.mp hx
          have := h2 y hy
          simp
          exact this
theorem alph_len (n : Nat) : (alph n).length = n := by simp [alph]
theorem setsK_16 {l : List Nat} (h : l.length ≤ 4) : (setsK l).length ≤ 16 := by
  rw [(setsK_le 4 l h).1]
  exact Nat.le_trans (Nat.pow_le_pow_right (by omega) h) (by decide)
theorem allSets_len {n : Nat} (h : n ≤ 4) : (allSets n).length ≤ 16 := setsK_16 (by rw [alph_len]; exact h)
theorem allSets_mem {n : Nat} (h : n ≤ 4) : ∀ x ∈ allSets n, x.length ≤ 4 := fun x hx => by
  have := (setsK_le 4 (alph n) (by rw [alph_len]; exact h)).2 x hx
  rw [alph_len] at this
  omega
section
variable {P : Program} {w : World} {K : PySem.W.Frag} {mg : Str → Option Value} {base : Heap} {f : Addr} {fd : FuncData} {k : Nat}
theorem sc21 : FnScope ["many", "found", "sign", "told"] ["many"] (defScope (top 21)) := ⟨rfl, rfl, rfl, by decide +kernel, rfl, by decide +kernel, by decide +kernel⟩
abbrev spSets : Sp := sp1 rN (fun n => n ≤ 4) (rL rX) allSets
theorem ok_sets {tA : Tok} (F : Fun K "all_sets" "all_sets" (top 21) f fd) (mA : mg "ALPHABET" = some (.str "abcdefg" tA)) : FnOk P w K mg base CX0 (k + 1) f fd ["many"] spSets := by
  refine F.ok sc21 (fun vs H Q E h => ?_) (fun cdv A outer s H vs Q E hr h => ?_)
  · obtain ⟨x, a, rfl, _⟩ := h
    rfl
  obtain ⟨x, n, rfl, hx, hn, q⟩ := h
  cases hx
  refine ⟨_, pss_cons (ps_set (i := 1) sc21.nd rfl (.inl rfl) (pe_lst (pa_cons pe_str pa_nil)))
    (pss_cons (ps_for PassesOwn.never rfl (pi_str (pe_slice sl_str (pe_glob (v := .str "abcdefg") (by rfl) mA ⟨_, rfl⟩) po_none (po_some (pv 0)))) (pg_name (i := 2) sc21.nd rfl (.inr rfl))
      (pss_one (ps_set (i := 1) sc21.nd rfl (.inl rfl) (pe_op op_cat (pv 1) (pe_lc (own := [("told", 3)]) (g := gName 3) (tt := tYes) rfl sc21.nd (pi_list (pv 1)) (blkOk_by (N := ["many", "found", "sign", "told"]) (sc := defScope (top 21)) (by decide +kernel))
        (fun _ _ _ _ _ => pg_name (i := 3) sc21.nd rfl (.inl rfl)) (fun _ _ _ _ _ => pts_nil) (fun _ _ _ _ _ => pe_op op_add_str (pv 3) (pv 2)))))))
    (pss_one (ps_ret (pv 1)))), ?_⟩
  refine r_set (R := rL rX) (a := [[]]) (er_lst1 (R := rX) (er_ev (f := fun l => V.str (tx l)) (a := []) ev_c) mn_S) fun v0 H1 e1 r1 => ?_
  have hal : (alph n).length = n := alph_len n
  refine r_forN (R := rC) (as := alph n) (fun i σ' H' => ∃ v y2 y3, σ' = [some (.int (n : Int)), some v, y2, y3] ∧ rL rX H' v (setsK ((alph n).take i))) (ei_str (er_alph ev_c (fun _ _ => ev_var rfl) (by omega))) tg_name (fun H2 e2 => ⟨v0, _, _, rfl, mn_L mn_S _ _ _ _ e2 r1⟩)
    (fun H2 e2 i a x σ' H' e3 ha ra hP => ?_) (fun i σ' H' H'' e h => ?_) fun σ' H' e2 hP => ?_
  · obtain ⟨v, y2, y3, rfl, rv⟩ := hP
    cases ra
    have hlt : ((alph n).take i).length ≤ 4 := by
      rw [List.length_take, hal]
      omega
    have h16 := setsK_16 hlt
    have hm := (setsK_le 4 _ hlt).2
    refine r_set1 (R := rL rX) (a := setsK ((alph n).take i) ++ ((setsK ((alph n).take i)).filter fun _ => true).map (· ++ [a])) (er_cat (er_var rfl rv (mn_L mn_S)) (er_lc (R := rX) (fun _ => true) (· ++ [a]) (ei_list (er_var rfl rv (mn_L mn_S)) mn_S) mt_S (by omega) tg_name fun b z H4 e4 hb rb => ⟨rfl, fun _ _ _ q => q _ (Ex.refl _), fun _ => ?_⟩) mn_S ?_) fun v2 H4 e4 r4 => ⟨e3.trans e4, v2, _, _, rfl, ?_⟩
    · cases rb
      exact er_catX (er_var rfl rfl mn_S) (er_var (R := rX) (a := [a]) rfl rfl mn_S) (by have := hm b hb; simp; omega) fun i j H1 Q h1 h2 => ⟨i, j, rfl, rfl, h1, h2⟩
    · rw [List.length_map]
      have := List.length_filter_le (fun _ => true) (setsK ((alph n).take i))
      omega
    · rw [List.take_add_one, ha]
      show rL rX H4 v2 (setsK ((alph n).take i ++ [a]))
      rw [setsK_snoc]
      rw [List.filter_eq_self.mpr (fun _ _ => rfl)] at r4
      exact r4
  · obtain ⟨v, y2, y3, rfl, rv⟩ := h
    exact ⟨v, y2, y3, rfl, mn_L mn_S _ _ _ _ e rv⟩
  · obtain ⟨v, y2, y3, rfl, rv⟩ := hP
    rw [List.take_length] at rv
    exact r_ret (er_var rfl rv (mn_L mn_S)) fun v2 H3 e3 r3 => q v2 H3 ((e1.trans e2).trans e3) r3
end
end F1
set_option Elab.async false
set_option linter.all false
set_option maxRecDepth 100000
set_option maxHeartbeats 1000000
namespace F1
open PySem PySem.Spec PyProof.Rows L2 Evl
/-! ### count_joined -/
def mrg (one other : Nat) (p : Nat × Nat) : Nat × Nat :=
  let a := if p.1 = other then one else p.1
  let b := if p.2 = other then one else p.2
  if a ≤ b then (a, b) else (b, a)
def addp (acc : List (Nat × Nat)) (q : Nat × Nat) : List (Nat × Nat) := if q.1 = q.2 then acc else if q ∈ acc then acc else acc ++ [q]
def mrgs (one other : Nat) (r : List (Nat × Nat)) : List (Nat × Nat) := r.foldl (fun acc p => addp acc (mrg one other p)) []
def cjF : Nat → List (Nat × Nat) → Nat
  | 0, _ => 1
  | _ + 1, [] => 1
  | n + 1, p :: r => cjF n r + cjF n (mrgs p.1 p.2 r)
theorem mrg_l (a b : Nat) : (if a ≤ b then [a, b] else [b, a]) = [(if a ≤ b then (a, b) else (b, a)).1, (if a ≤ b then (a, b) else (b, a)).2] := by
  split <;> rfl
theorem addp_len (acc : List (Nat × Nat)) (q : Nat × Nat) : (addp acc q).length ≤ acc.length + 1 := by
  unfold addp
  split
  · omega
  · split
    · omega
    · simp
theorem mrgs_len (a b : Nat) : ∀ r acc : List (Nat × Nat), (r.foldl (fun acc p => addp acc (mrg a b p)) acc).length ≤ acc.length + r.length
  | [], acc => by simp
  | p :: r, acc => by
    have h1 := mrgs_len a b r (addp acc (mrg a b p))
    have h2 := addp_len acc (mrg a b p)
    rw [List.foldl_cons, List.length_cons]
    omega
theorem cjF_le : ∀ n ps, cjF n ps ≤ 2 ^ n
  | 0, _ => Nat.le_refl _
  | _ + 1, [] => Nat.one_le_two_pow
  | n + 1, p :: r => by
    have h1 := cjF_le n r
    have h2 := cjF_le n (mrgs p.1 p.2 r)
    show cjF n r + cjF n (mrgs p.1 p.2 r) ≤ 2 ^ (n + 1)
    rw [Nat.pow_succ]
    omega
/-- the dict's keys -/
abbrev entP (p : Nat × Nat) : List Key × V := ([.inl (p.1 : Int), .inl (p.2 : Int)], .bl true)
theorem entP_key {p q : Nat × Nat} : (entP p).1 = (entP q).1 ↔ p = q := by
  obtain ⟨a, b⟩ := p
  obtain ⟨c, d⟩ := q
  simp [entP]
  omega
theorem put_ent (L : List (Nat × Nat)) (q : Nat × Nat) (hq : q.1 ≠ q.2) : putK (L.map entP) (entP q).1 (.bl true) = (addp L q).map entP := by
  unfold putK addp
  rw [if_neg hq]
  have hany : ((L.map entP).any fun kv => decide (kv.1 = (entP q).1)) = decide (q ∈ L) := by
    rw [List.any_map]
    by_cases hm : q ∈ L
    · rw [decide_eq_true hm]
      exact List.any_eq_true.mpr ⟨q, hm, decide_eq_true rfl⟩
    · rw [decide_eq_false hm]
      refine List.any_eq_false.mpr fun x hx => ?_
      intro z
      have z2 := entP_key.mp (of_decide_eq_true z)
      exact hm (z2 ▸ hx)
  rw [hany]
  by_cases hm : q ∈ L
  · rw [if_pos (decide_eq_true hm), if_pos hm, List.map_map]
    refine List.map_congr_left fun x _ => ?_
    show (if (entP x).1 = (entP q).1 then ((entP x).1, V.bl true) else entP x) = entP x
    split <;> rfl
  · rw [if_neg (by rw [decide_eq_false hm]; decide), if_neg hm, List.map_append]
    rfl
theorem sort2 {a b : Int} {ns : List Int} (hp : ns.Perm [a, b]) (hs : ns.Pairwise (· ≤ ·)) : ns = if a ≤ b then [a, b] else [b, a] := by
  have hl := hp.length_eq
  match ns, hl with
  | [x, y], _ =>
    have hxy : x ≤ y := by
      have := (List.pairwise_cons.mp hs).1 y (by simp)
      exact this
    have hx : x ∈ [a, b] := hp.mem_iff.mp (by simp)
    have ha : a ∈ [x, y] := hp.mem_iff.mpr (by simp)
    have hb : b ∈ [x, y] := hp.mem_iff.mpr (by simp)
    have hy : y ∈ [a, b] := hp.mem_iff.mp (by simp)
    simp only [List.mem_cons, List.not_mem_nil, or_false] at hx ha hb hy
    split
    · have : x = a := by omega
      have : y = b := by omega
      simp [*]
    · have : x = b := by omega
      have : y = a := by omega
      simp [*]
theorem er_sort2 {K : PySem.W.Frag} {σ : L2.St} {H : Hp} {te : TE} {a b : Nat} (h : EvR te σ H (rL rN) [a, b]) : EvR (tCB (rSorted K) (tCons te tNil)) σ H (rL rN) (if a ≤ b then [a, b] else [b, a]) := er_cb1 h fun x H1 e1 r Q q => by
  obtain ⟨p, us, rfl, hp, hu⟩ := r
  have hu2 := pd_map hu
  refine ⟨p, [(a : Int), (b : Int)], rfl, sq_of (by rw [hp, hu2] <;> rfl), by show 2 < 64; omega, fun ns' p' hperm hsort hp' => ?_⟩
  have hns := sort2 hperm hsort
  refine q _ _ (Ex.new hp') ⟨p', _, rfl, upd_same, ?_⟩
  subst hns
  by_cases hab : a ≤ b
  · rw [if_pos (by omega), if_pos hab]
    exact .cons rfl (.cons rfl .nil)
  · rw [if_neg (by omega), if_neg hab]
    exact .cons rfl (.cons rfl .nil)
section
variable {P : Program} {w : World} {K : PySem.W.Frag} {mg : Str → Option Value} {base : Heap} {f : Addr} {fd : FuncData} {k : Nat}
theorem sc23 : FnScope ["pairs", "many", "one", "other", "merged", "pair", "ends", "end"] ["pairs", "many"] (defScope (top 23)) := ⟨rfl, rfl, rfl, by decide +kernel, rfl, by decide +kernel, by decide +kernel⟩
abbrev spJ (n : Nat) : Sp := sp2 (rL rPr) rI (fun ps _ => ps.length ≤ n) rN fun ps _ => cjF n ps
theorem sh_prs {ps : List (Nat × Nat)} : SeqAt.shaped (.list (ps.map prD2)) = true := shaped_list (lay_all prD2_lay ps) (by have := depth_all prD2_depth ps; omega)
theorem ok_J0 (F : Fun K "count_joined" "count_joined" (top 23) f fd) : FnOk P w K mg base CX0 1 f fd ["pairs", "many"] (spJ 0) := by
  refine F.ok sc23 (fun vs H Q E h => ?_) (fun cdv A outer s H vs Q E hr h => ?_)
  · obtain ⟨x, y, a, b, rfl, _⟩ := h
    rfl
  obtain ⟨x, y, ps, m, rfl, hx, hy, hl, q⟩ := h
  have : ps = [] := List.length_eq_zero_iff.mp (by omega)
  subst this
  refine ⟨_, pss_cons (ps_if (pt_cmpR (op_eqD hr.units) (pv 0) (pe_lst pa_nil) (nomark _)) (pss_one (ps_ret pe_int)) pss_nil) pss_never, ?_⟩
  exact q_when (b := true) (et_is (et_test (ev_eq0 (d := prD2) (er_var rfl hx (mn_L mn_pr)) mn_pr (fun _ _ _ h => dp_pr h) sh_prs)) (by decide)) (fun _ H1 e1 => s_ret ev_c fun H2 e2 => q _ H2 (e1.trans e2) rfl) (fun z => nomatch z)
theorem cut_tail (xs : List V) (hx : xs ≠ []) : cutV xs (some 1) none = xs.drop 1 := by
  unfold cutV
  rw [show HT.sIx xs.length 0 (some 1) = min 1 xs.length from HT.sIx_nat xs.length 0 1, HT.sIx_none]
  cases xs with
  | nil => exact absurd rfl hx
  | cons x r =>
    rw [show min 1 (x :: r).length = 1 by rw [List.length_cons]; omega]
    show (List.take ((x :: r).length - 1) r) = r
    rw [List.length_cons, Nat.add_sub_cancel]
    exact List.take_length
theorem er_tail {α : Type} {R : Rl α} {te : TE} {σ : L2.St} {H : Hp} {b : α} {bs : List α} (h : EvR te σ H (rL R) (b :: bs)) (m : Mn R) : EvR (tSl (rSlL K) te (tPart (tC (.int 1))) tNoPart) σ H (rL R) bs := fun H1 e Q q =>
  h H1 e _ fun v H2 e2 r => by
    obtain ⟨p, us, rfl, hp, hu⟩ := r
    cases hu with
    | cons r1 r2 =>
      refine ⟨1, rfl, p, _, rfl, sq_of hp, fun p' hp' => q _ _ (e2.trans (Ex.new hp')) ⟨p', _, rfl, upd_same, ?_⟩⟩
      rw [cut_tail _ (by simp)]
      exact Paired.mapP r2 fun x y => m _ _ _ _ (Ex.new hp')
theorem ok_JS {n : Nat} (F : Fun K "count_joined" "count_joined" (top 23) f fd) (C : Cal P w K mg base (n + 1) "count_joined" f fd ["pairs", "many"] (spJ n)) (ms : mg "sorted" = none) (mt : mg "tuple" = none) (ml : mg "list" = none) :
    FnOk P w K mg base CX0 (n + 2) f fd ["pairs", "many"] (spJ (n + 1)) := by
  refine F.ok sc23 (fun vs H Q E h => ?_) (fun cdv A outer s H vs Q E hr h => ?_)
  · obtain ⟨x, y, a, b, rfl, _⟩ := h
    rfl
  obtain ⟨x, y, ps, m, rfl, hx, hy, hl, q⟩ := h
  cases hy
  refine ⟨_, pss_cons (ps_if (pt_cmpR (op_eqD hr.units) (pv 0) (pe_lst pa_nil) (nomark _)) (pss_one (ps_ret pe_int)) pss_nil)
    (pss_cons (ps_asg (pe_ix ix_list (pv 0) pe_int (fun _ _ => rfl)) (pg_tup rfl (pgs_cons (pg_name (i := 2) sc23.nd rfl (.inr rfl)) (pgs_cons (pg_name (i := 3) sc23.nd rfl (.inr rfl)) pgs_nil))))
    (pss_cons (ps_set (i := 4) sc23.nd rfl (.inl rfl) pe_dnewT)
    (pss_cons (ps_for PassesOwn.never rfl (pi_list (pe_slice sl_list (pv 0) (po_some pe_int) po_none)) (pg_name (i := 5) sc23.nd rfl (.inl rfl))
      (pss_cons (ps_set (i := 6) sc23.nd rfl (.inl rfl) (pe_callB cr_sorted (by rfl) ms boot_sorted (pa_cons (pe_lc (own := [("end", 7)]) (g := gName 7) (tt := tYes) rfl sc23.nd (pi_tup (pv 5))
          (blkOk_by (N := ["pairs", "many", "one", "other", "merged", "pair", "ends", "end"]) (sc := defScope (top 23)) (by decide +kernel)) (fun _ _ _ _ _ => pg_name (i := 7) sc23.nd rfl (.inl rfl)) (fun _ _ _ _ _ => pts_nil)
          (fun _ _ _ _ _ => pe_ifExp (pt_cmpR op_eq (pv 7) (pv 3) (nomark _)) (pv 2) (pv 7))) pa_nil)))
      (pss_one (ps_if (pt_cmpR op_ne (pe_ix ix_list (pv 6) pe_int (fun _ _ => rfl)) (pe_ix ix_list (pv 6) pe_int (fun _ _ => rfl)) (nomark _))
        (pss_one (ps_dput (hu_of hr) (pv 4) (pe_callTy call_tuple_of (by rfl) mt (by decide +kernel) (pa_cons (pv 6) pa_nil)) pe_bl rfl)) pss_nil))))
    (pss_one (ps_ret (pe_op op_add (pe_cal C (Nat.le_refl _) hr (pa_cons (pe_slice sl_list (pv 0) (po_some pe_int) po_none) (pa_cons (pv 1) pa_nil)))
      (pe_cal C (Nat.le_refl _) hr (pa_cons (pe_callTy (call_list_dT rfl) (by rfl) ml (by decide +kernel) (pa_cons (pv 4) pa_nil)) (pa_cons (pe_op op_sub (pv 1) pe_int) pa_nil))))))))), ?_⟩
  refine q_when (et_test (ev_eq0 (d := prD2) (er_var rfl hx (mn_L mn_pr)) mn_pr (fun _ _ _ h => dp_pr h) sh_prs)) (fun hb H1 e1 => ?_) fun hb H1 e1 => ?_
  · have : ps = [] := of_decide_eq_true hb
    subst this
    exact s_ret ev_c fun H2 e2 => q _ H2 (e1.trans e2) rfl
  cases ps with
  | nil => exact absurd rfl (of_decide_eq_false hb)
  | cons pr r =>
    have hrl : r.length ≤ n := by
      simp at hl
      exact hl
    -- one, other = pairs[0]
    refine (er_ixL (K := K) (n := 0) (R := rPr) (er_var rfl (mn_L mn_pr _ _ _ _ e1 hx) (mn_L mn_pr)) mn_pr (fun _ _ => ev_c) rfl) H1 (Ex.refl _) _ fun v H2 e2 rv => ?_
    obtain ⟨pa, xa, ya, rfl, hpa, hxa, hya⟩ := rv
    cases hxa
    cases hya
    refine ⟨pa, _, rfl, st_of hpa, rfl, _, _, rfl, _, _, rfl, rfl, ?_⟩
    -- merged = {}
    intro d hd
    have eH2 : Ex H H2 := e1.trans e2
    -- pairs[1:]
    have hx2 : rL rPr (upd H2 d (.dT [])) x (pr :: r) := mn_L mn_pr _ _ _ _ (eH2.trans (Ex.new hd)) hx
    refine (er_tail (K := K) (er_var (σ := [some x, some (.int m), some (.int (pr.1 : Int)), some (.int (pr.2 : Int)), some (.ref d), none, none, none]) rfl hx2 (mn_L mn_pr)) mn_pr) _ (Ex.refl _) _ fun t H3 e3 rt => ?_
    obtain ⟨t, us, rfl, ht, hus⟩ := rt
    have hul := hus.length
    have hd3 : H3 d = some (.dT []) := e3 _ _ upd_same
    have hdt : d ≠ t := ne_of hd3 ht (fun z => nomatch z)
    have eH3 : Ex H2 H3 := (Ex.new hd).trans e3
    refine ⟨t, rfl, ⟨us, sq_of ht⟩, for_it (walk_list (K := K) (a := t) (xs := us)) (fun i σ' H' => ∃ y5 y6 y7, σ' = [some x, some (.int m), some (.int (pr.1 : Int)), some (.int (pr.2 : Int)), some (.ref d), y5, y6, y7] ∧ Ex H2 H' ∧ (∀ a o, H3 a = some o → a ≠ d → H' a = some o) ∧
      H' d = some (.dT ((mrgs pr.1 pr.2 (r.take i)).map entP))) ⟨_, _, _, rfl, eH3, fun _ _ h _ => h, hd3⟩ (fun i σ' H' _ p => ?_) (fun i v σ' H' H'' hi p yy => ?_) fun σ' H' p => ?_⟩
    · obtain ⟨y5, y6, y7, rfl, p1, p2, p3⟩ := p
      exact sq_of (p2 t _ ht (Ne.symm hdt))
    · obtain ⟨y5, y6, y7, rfl, p1, p2, p3⟩ := p
      obtain ⟨rfl, hv⟩ := yy
      obtain ⟨b, hbr, rb⟩ := pd_get hus hv
      have rb4 : rPr H'' v b := by
        obtain ⟨b1, b2, b3, rfl, b4, b5, b6⟩ := rb
        exact ⟨b1, b2, b3, rfl, p2 _ _ b4 (fun z => by rw [z, hd3] at b4; cases b4), b5, b6⟩
      show tSeq _ _ _ [some x, some (.int m), some (.int (pr.1 : Int)), some (.int (pr.2 : Int)), some (.ref d), some v, y6, y7] H''
      -- ends
      have hlc := er_lc (σ := [some x, some (.int m), some (.int (pr.1 : Int)), some (.int (pr.2 : Int)), some (.ref d), some v, y6, y7]) (H := H'') (t := tYes) (vs := [7]) (R := rN) (as := [b.1, b.2]) (S := rN) (fun _ => true) (fun e => if e = pr.2 then pr.1 else e) (it := iTup K (tVar 5)) (g := gName 7) (te := tIf (tTest (tOp rEq (tVar 7) (tVar 3))) (tVar 2) (tVar 7))
        (ei_pair (er_var rfl rb4 mn_pr)) mt_S (by show 2 ≤ 40000; omega) tg_name (fun a z H5 e5 ha ra => ⟨rfl, fun _ _ _ q => q _ (Ex.refl _), fun _ => by
          cases ra
          refine er_if (et_test (ev_op (ev_var (v := .int (a : Int)) rfl) (ev_var (v := .int (pr.2 : Int)) rfl) (rv_eq rfl))) (fun hq => er_ev (f := fun n : Nat => V.int (n : Int)) ?_) fun hq => er_ev (f := fun n : Nat => V.int (n : Int)) ?_
          · have : a = pr.2 := by
              have := of_decide_eq_true hq
              injection this with this
              omega
            rw [if_pos this]
            exact ev_var rfl
          · have : a ≠ pr.2 := fun z => of_decide_eq_false hq (by rw [z])
            rw [if_neg this]
            exact ev_var rfl⟩)
      have hmg : (if (if b.1 = pr.2 then pr.1 else b.1) ≤ (if b.2 = pr.2 then pr.1 else b.2) then [(if b.1 = pr.2 then pr.1 else b.1), (if b.2 = pr.2 then pr.1 else b.2)] else [(if b.2 = pr.2 then pr.1 else b.2), (if b.1 = pr.2 then pr.1 else b.1)]) = [(mrg pr.1 pr.2 b).1, (mrg pr.1 pr.2 b).2] := by
        exact mrg_l _ _
      refine r_set (R := rL rN) (a := [(mrg pr.1 pr.2 b).1, (mrg pr.1 pr.2 b).2]) (er_is (er_sort2 hlc) hmg) fun ve H6 e6 re => ?_
      obtain ⟨p', ue, rfl, hp6, hue⟩ := re
      have hue2 := pd_map hue
      subst hue2
      show tIfS _ _ _ _ [some x, some (.int m), some (.int (pr.1 : Int)), some (.int (pr.2 : Int)), some (.ref d), some v, some (.ref p'), y7] H6
      have rl6 : rL rN H6 (.ref p') [(mrg pr.1 pr.2 b).1, (mrg pr.1 pr.2 b).2] := ⟨p', _, rfl, hp6, .cons rfl (.cons rfl .nil)⟩
      have htk : r.take (i + 1) = r.take i ++ [b] := by
        rw [List.take_add_one, hbr] <;> rfl
      have hmr : mrgs pr.1 pr.2 (r.take (i + 1)) = addp (mrgs pr.1 pr.2 (r.take i)) (mrg pr.1 pr.2 b) := by
        rw [htk]
        unfold mrgs
        rw [List.foldl_append]
        rfl
      refine s_when (et_test (ev_op (ev_vr (er_ixL (n := 0) (er_var rfl rl6 (mn_L mn_S)) mn_S (fun _ _ => ev_c) rfl) rfl) (ev_vr (er_ixL (n := 1) (er_var rfl rl6 (mn_L mn_S)) mn_S (fun _ _ => ev_c) rfl) rfl) (rv_ne rfl))) (fun hne H7 e7 => ?_) fun hne H7 e7 => ?_
      · have hne2 : (mrg pr.1 pr.2 b).1 ≠ (mrg pr.1 pr.2 b).2 := fun z => by
          rw [z] at hne
          simp at hne
        have hd7 : H7 d = some (.dT ((mrgs pr.1 pr.2 (r.take i)).map entP)) := e7 _ _ (e6 _ _ p3)
        refine ⟨_, rfl, _, rfl, p', _, rfl, .inl ⟨sq_of (e7 _ _ hp6), fun l hl => ?_⟩⟩
        have hdl : d ≠ l := ne_of_none hd7 hl
        refine ⟨d, upd (upd H7 l (.tup [.int ((mrg pr.1 pr.2 b).1 : Int), .int ((mrg pr.1 pr.2 b).2 : Int)])) d (.dT (putK ((mrgs pr.1 pr.2 (r.take i)).map entP) (entP (mrg pr.1 pr.2 b)).1 (.bl true))), rfl, DPut.t (by rw [upd_ne hdl]; exact hd7) upd_same ?_, _, _, _, rfl, ?_, ?_, ?_⟩
        · rw [List.length_map]
          have h1 := mrgs_len pr.1 pr.2 (r.take i) []
          rw [List.length_take] at h1
          have h2 : (mrgs pr.1 pr.2 (r.take i)).length < 100000 := by
            have : (mrgs pr.1 pr.2 (r.take i)).length ≤ ([] : List (Nat × Nat)).length + min i r.length := h1
            have hn : r.length < 100000 ∨ 100000 ≤ r.length := by omega
            rcases hn with hn | hn
            · simp at this
              omega
            · exfalso
              have := hr.dp
              have : recursionLimit ≤ 100000 := by decide
              omega
          exact sz_lt h2
        · exact fun a o ha => by
            have hda : a ≠ d := fun z => by rw [z, hd] at ha; cases ha
            have hla : a ≠ l := fun z => by
              have := e7 _ _ (e6 _ _ (p1 _ _ ha))
              rw [z, hl] at this
              cases this
            rw [upd_ne hda, upd_ne hla]
            exact e7 _ _ (e6 _ _ (p1 _ _ ha))
        · exact fun a o ha hda => by
            have h7 := e7 _ _ (e6 _ _ (p2 _ _ ha hda))
            rw [upd_ne hda, upd_ne (ne_of_none h7 hl)]
            exact h7
        · rw [upd_same, hmr, put_ent _ _ hne2]
      · have heq : (mrg pr.1 pr.2 b).1 = (mrg pr.1 pr.2 b).2 := by
          simp at hne
          omega
        refine ⟨_, _, _, rfl, (p1.trans e6).trans e7, fun a o ha hda => e7 _ _ (e6 _ _ (p2 _ _ ha hda)), ?_⟩
        rw [hmr]
        unfold addp
        rw [if_pos heq]
        exact e7 _ _ (e6 _ _ p3)
    · obtain ⟨y5, y6, y7, rfl, p1, p2, p3⟩ := p
      have htl : r.take us.length = r := List.take_of_length_le (by omega)
      rw [htl] at p3
      have hxx : rL rPr H' x (pr :: r) := mn_L mn_pr _ _ _ _ (eH2.trans p1) hx
      have hml : (mrgs pr.1 pr.2 r).length ≤ n := by
        have := mrgs_len pr.1 pr.2 r []
        have : (mrgs pr.1 pr.2 r).length ≤ ([] : List (Nat × Nat)).length + r.length := this
        simp at this
        omega
      have hlist : EvR (tCB (fun xs H Q => ∃ d kvs, xs = [V.ref d] ∧ Rd H d (.dT kvs) ∧ ∀ p bs, H p = none → IsKeys H kvs bs → Q (.ref p) (upd H p (.lst (bs.map V.ref)))) (tCons (tVar 4) tNil)) [some x, some (.int m), some (.int (pr.1 : Int)), some (.int (pr.2 : Int)), some (.ref d), y5, y6, y7] H' (rL rPr) (mrgs pr.1 pr.2 r) := fun H1 e1 Q q => by
        refine ⟨_, rfl, d, _, rfl, .inl (e1 _ _ p3), fun p bs hp hk => q _ _ (Ex.new hp) ⟨p, _, rfl, upd_same, ?_⟩⟩
        have key : ∀ {L : List (Nat × Nat)} {bs : List Addr}, Paired (fun (p : List Key × V) b => H1 b = some (.tup (p.1.map kV))) (L.map entP) bs → Paired (rPr (upd H1 p (.lst (bs.map V.ref)))) (bs.map V.ref) L := by
          intro L
          induction L with
          | nil =>
            intro bs h
            cases h
            exact .nil
          | cons a L ih =>
            intro bs h
            cases h with
            | cons h1 h2 =>
              rename_i b bs
              have : ∀ hh : Hp, (∀ c us, H1 c = some (.tup us) → hh c = some (.tup us)) → Paired (rPr hh) ((b :: bs).map V.ref) (a :: L) := fun hh hk => .cons ⟨b, _, _, rfl, hk _ _ h1, rfl, rfl⟩ (Paired.mapP (ih h2) fun x y r => by
                obtain ⟨r1, r2, r3, r4, r5, r6, r7⟩ := r
                refine ⟨r1, r2, r3, r4, hk _ _ ?_, r6, r7⟩
                by_cases hr1 : r1 = p
                · rw [hr1, upd_same] at r5
                  cases r5
                · rw [upd_ne hr1] at r5
                  exact r5)
              exact this _ fun c us hc => by
                rw [upd_ne (ne_of_none hc hp)]
                exact hc
        exact key hk
      refine s_ret (ev_op (ev_vr (f := fun n : Nat => V.int (n : Int)) (er_c2 (er_tail (er_var rfl hxx (mn_L mn_pr)) mn_pr) (er_var (a := m) rfl rfl mn_S) (mn_L mn_pr) hrl) rfl)
        (ev_vr (f := fun n : Nat => V.int (n : Int)) (er_c2 hlist (er_ev (f := V.int) (ev_op (ev_var rfl) ev_c rv_I0)) (mn_L mn_pr) hml) rfl) rv_I0) fun H9 e9 => q _ H9 ((eH2.trans p1).trans e9) ?_
      show V.int _ = V.int _
      congr 1
end
end F1
set_option Elab.async false
set_option linter.all false
set_option maxRecDepth 100000
set_option maxHeartbeats 1000000
namespace F1
open PySem PySem.Spec PyProof.Rows L2 Evl
theorem ab7 : ("abcdefg" : Str) = tx (alph 7) := by decide +kernel
theorem alph_get {n i : Nat} (h : i < n) : (alph n)[i]? = some (97 + i) := by
  unfold alph
  rw [List.getElem?_map, List.getElem?_range h]
  rfl
theorem mem_alph {n x : Nat} : x ∈ alph n ↔ 97 ≤ x ∧ x < 97 + n := by
  unfold alph
  rw [List.mem_map]
  exact ⟨fun ⟨a, ha, e⟩ => by have := List.mem_range.mp ha; omega, fun h => ⟨x - 97, List.mem_range.mpr (by omega), by omega⟩⟩
theorem join_tx (l : List Nat) : Txt.join (⟨#[]⟩ : Str) (l.map fun c => (⟨#[c]⟩ : Str)) = tx l := by
  show Builtin.Str.glued ⟨#[]⟩ (l.map fun c => (⟨#[c]⟩ : Str)) = tx l
  rw [StrLaws.glued_eq_join]
  have h := PyProof.Rows.join_nil_signs (tx l)
  have e : PyProof.Rows.signs (tx l) = l.map fun c => (⟨#[c]⟩ : Str) := by
    unfold PyProof.Rows.signs
    simp
  rw [e] at h
  exact h
section
variable {K : PySem.W.Frag} {σ : L2.St} {H : Hp} {te ta tb tc : TE}
theorem er_sign {i : Nat} (h : Ev ta σ H (.str ("abcdefg" : Str))) (hi : EvR tb σ H rN i) (h7 : i < 7) : EvR (tOp rIxS ta tb) σ H rC (97 + i) := by
  rw [ab7] at h
  exact er_ixX (er_ev (f := fun l => V.str (tx l)) h) hi (by simp [alph_len]) (alph_get h7)
theorem ev_inS2 {c : Nat} {l : List Nat} (h1 : EvR ta σ H rC c) (h2 : EvR tb σ H rX l) : EvR (tOp rInS ta tb) σ H rBl (decide (c ∈ l)) := er_ev (ev_in h1 h2)
theorem er_join {l : List Nat} (ho : Ev ta σ H (.str ⟨#[]⟩)) (h : EvR te σ H (rL rC) l) (hl : l.length ≤ 1000) : EvR (tM1 (fun x xs H Q => ∃ a p, ∃ ys : List Str, x = .str a ∧ xs = [.ref p] ∧ (SqL K H p (ys.map V.str) ∨ SqT K H p (ys.map V.str)) ∧
      (ys.map (·.length)).sum + ys.length * a.length ≤ 16777216 ∧ Q (.str (Txt.join a ys)) H) ta te) σ H rX l := fun H1 e Q q => ho H1 e _ fun H2 e2 => ⟨⟨_, rfl⟩, h H2 (e.trans e2) _ fun v H3 e3 r => by
  obtain ⟨p, us, rfl, hp, hu⟩ := r
  have hu2 := pd_map hu
  refine ⟨⟨#[]⟩, p, l.map fun c => ⟨#[c]⟩, rfl, rfl, .inl (sq_of (by rw [hp, hu2, List.map_map]; rfl)), ?_, ?_⟩
  · have hs : ∀ l : List Nat, ((l.map fun c => (⟨#[c]⟩ : Str)).map (·.length)).sum = l.length := by
      intro l
      induction l with
      | nil => rfl
      | cons c l ih =>
        rw [List.map_cons, List.map_cons, List.sum_cons, ih, List.length_cons]
        show 1 + l.length = l.length + 1
        omega
    rw [hs]
    show l.length + (l.map fun c => (⟨#[c]⟩ : Str)).length * 0 ≤ 16777216
    omega
  · rw [join_tx]
    exact q _ H3 (e2.trans e3) rfl⟩
end
/-! ### count_of, gathers -/
def countOf (ps : List (Nat × Nat)) (l : List Nat) : Nat := cjF 6 (ps.filter fun p => decide (97 + p.1 ∈ l) && decide (97 + p.2 ∈ l))
def gathersF (ps : List (Nat × Nat)) (w : List Nat) : Bool := !((ps.map fun p => !decide (97 + p.1 ∈ w) && !decide (97 + p.2 ∈ w)).any id)
def coverF (ps : List (Nat × Nat)) (w : List Nat) : Bool := (ps.map fun p => decide (97 + p.1 ∈ w) || decide (97 + p.2 ∈ w)).all id
/-- (length, text) before -/
def befL (x y : List Nat) : Bool := decide ((x.length : Int) < (y.length : Int)) || (decide ((x.length : Int) = (y.length : Int)) && decide (x < y))
def bestOf (ps : List (Nat × Nat)) (b : Option (List Nat)) (t : List Nat) : Option (List Nat) := if coverF ps t = true then (match b with | none => some t | some y => if befL t y = true then some t else some y) else b
def shortF (c : Nat × List (Nat × Nat)) : Option (List Nat) := (allSets c.1).foldl (bestOf c.2) none
theorem best_no {ps : List (Nat × Nat)} {c : Option (List Nat)} {t : List Nat} (h : coverF ps t = false) : bestOf ps c t = c := by
  unfold bestOf
  rw [if_neg (by rw [h]; decide)]
theorem best_none {ps : List (Nat × Nat)} {t : List Nat} (h : coverF ps t = true) : bestOf ps none t = some t := by
  unfold bestOf
  rw [if_pos h]
theorem best_some {ps : List (Nat × Nat)} {t y : List Nat} (h : coverF ps t = true) : bestOf ps (some y) t = if befL t y = true then some t else some y := by
  unfold bestOf
  rw [if_pos h]
def oxV : Option (List Nat) → V
  | none => V.non
  | some l => V.str (tx l)
abbrev rOX : Rl (Option (List Nat)) := rS oxV
theorem filt_true {α : Type} (l : List α) : l.filter (fun _ => true) = l := List.filter_eq_self.mpr fun _ _ => rfl
section
variable {P : Program} {w : World} {K : PySem.W.Frag} {mg : Str → Option Value} {base : Heap} {f : Addr} {fd : FuncData} {k : Nat}
theorem ok_J (F : Fun K "count_joined" "count_joined" (top 23) f fd) (bF : Binds K fd ["pairs", "many"] []) (mF : mg "count_joined" = some (.ref f)) (ms : mg "sorted" = none) (mt : mg "tuple" = none) (ml : mg "list" = none) : ∀ n, FnOk P w K mg base CX0 (n + 1) f fd ["pairs", "many"] (spJ n)
  | 0 => ok_J0 F
  | n + 1 => ok_JS F ⟨ok_J F bF mF ms mt ml n, bF, F.kp, mF⟩ ms mt ml
theorem sc24 : FnScope ["company", "letters", "pairs", "pair"] ["company", "letters"] (defScope (top 24)) := ⟨rfl, rfl, rfl, by decide +kernel, rfl, by decide +kernel, by decide +kernel⟩
abbrev spCnt : Sp := sp2 rCo rX (fun c l => OkC c ∧ l.length ≤ 60) rN fun c l => countOf c.2 l
theorem ok_cnt {g : Addr} {gd : FuncData} {tA : Tok} (F : Fun K "count_of" "count_of" (top 24) f fd) (J : Cal P w K mg base 7 "count_joined" g gd ["pairs", "many"] (spJ 6)) (mA : mg "ALPHABET" = some (.str "abcdefg" tA)) (ml : mg "len" = none) : FnOk P w K mg base CX0 (k + 8) f fd ["company", "letters"] spCnt := by
  refine F.ok sc24 (fun vs H Q E h => ?_) (fun cdv A outer s H vs Q E hr h => ?_)
  · obtain ⟨x, y, a, b, rfl, _⟩ := h
    rfl
  obtain ⟨x, y, ⟨n, ps⟩, l, rfl, hx, hy, ⟨hC, hl⟩, q⟩ := h
  cases hy
  refine ⟨_, pss_cons (ps_setLc (i := 2) (own := [("pair", 3)]) (g := gName 3) rfl sc24.nd rfl rfl (sw_true rfl rfl rfl (by decide +kernel)) (pi_tup (pe_ix ix_tup (pv 0) pe_int (fun _ _ => rfl))) (blkOk_by (N := ["company", "letters", "pairs", "pair"]) (sc := defScope (top 24)) (by decide +kernel))
      (fun _ _ _ _ _ => pg_name (i := 3) sc24.nd rfl (.inl rfl))
      (fun _ _ _ _ _ => pts_one (pw_and (pt_cmpR op_inS (pe_ix ix_str (pe_glob (v := .str "abcdefg") (by rfl) mA ⟨_, rfl⟩) (pe_ix (r := rIxT K) ix_tup (pv 3) pe_int (fun _ _ => rfl)) (fun _ _ => rfl)) (pv 1) (by rfl))
        (pw_and1 (pt_cmpR op_inS (pe_ix ix_str (pe_glob (v := .str "abcdefg") (by rfl) mA ⟨_, rfl⟩) (pe_ix (r := rIxT K) ix_tup (pv 3) pe_int (fun _ _ => rfl)) (fun _ _ => rfl)) (pv 1) (by rfl)))).pt)
      (fun _ _ _ _ _ => pv 3))
    (pss_one (ps_ret (pe_cal J (Nat.le_add_left 7 k) hr (pa_cons (pv 2) (pa_cons (pe_callB call_len_str (by rfl) ml boot_len (pa_cons (pv 1) pa_nil)) pa_nil))))), ?_⟩
  have hp4 : ∀ p ∈ ps, p.1 < 7 ∧ p.2 < 7 := fun p hp => by
    obtain ⟨h1, h2⟩ := hC.2.2.1 p hp
    have h3 := hC.1.2
    change p.2 < n at h2
    change n ≤ 4 at h3
    omega
  refine r_set (R := rL rPr) (er_lc (R := rPr) (as := ps) (fun p => decide (97 + p.1 ∈ l) && decide (97 + p.2 ∈ l)) (fun p => p) (ei_tup (er_snd (er_var rfl hx mn_co) (mn_T mn_pr) fun _ _ => ev_c) mn_pr) mt_pr (by have := hC.2.1; change ps.length ≤ 6 at this; omega) tg_name fun a z H4 e4 ha ra => ⟨rfl, ?_, fun _ => er_var rfl ra mn_pr⟩) fun v H1 e1 rv => ?_
  · obtain ⟨h1, h2⟩ := hp4 a ha
    exact et_and (et_test (ev_in (er_sign ev_c (er_fst (er_var rfl ra mn_pr) mn_S fun _ _ => ev_c) h1) (er_var rfl rfl mn_S))) fun _ => et_test (ev_in (er_sign ev_c (er_snd (er_var rfl ra mn_pr) mn_S fun _ _ => ev_c) h2) (er_var rfl rfl mn_S))
  · rw [List.map_id'] at rv
    refine r_ret (er_c2 (er_var rfl rv (mn_L mn_pr)) (er_ev (f := V.int) (a := (l.length : Int)) (ev_lenX (by omega) (ev_var rfl))) (mn_L mn_pr) ?_) fun v2 H2 e2 r2 => q v2 H2 (e1.trans e2) r2
    have h1 := List.length_filter_le (fun p : Nat × Nat => decide (97 + p.1 ∈ l) && decide (97 + p.2 ∈ l)) ps
    have h2 := hC.2.1
    change ps.length ≤ 6 at h2
    omega
theorem sc26 : FnScope ["company", "word", "one", "other"] ["company", "word"] (defScope (top 26)) := ⟨rfl, rfl, rfl, by decide +kernel, rfl, by decide +kernel, by decide +kernel⟩
abbrev spGat : Sp := sp2 rCo rX (fun c l => OkC c ∧ 1 ≤ l.length ∧ l.length ≤ 60 ∧ ∀ x ∈ l, x ∈ alph c.1) rBl fun c l => gathersF c.2 l
theorem ok_gat {g1 g2 : Addr} {gd1 gd2 : FuncData} {tA : Tok} (F : Fun K "gathers" "gathers" (top 26) f fd) (C : Cal P w K mg base 3 "need_company" g1 gd1 ["company"] spCom) (W : Cal P w K mg base 2 "need_word" g2 gd2 ["company", "word"] spNeedW)
    (mA : mg "ALPHABET" = some (.str "abcdefg" tA)) (ma : mg "any" = none) : FnOk P w K mg base CX0 (k + 4) f fd ["company", "word"] spGat := by
  refine F.ok sc26 (fun vs H Q E h => ?_) (fun cdv A outer s H vs Q E hr h => ?_)
  · obtain ⟨x, y, a, b, rfl, _⟩ := h
    rfl
  obtain ⟨x, y, ⟨n, ps⟩, l, rfl, hx, hy, hG, q⟩ := h
  cases hy
  have hC := hG.1
  refine ⟨_, pss_cons (ps_expr (pe_cal C (Nat.le_add_left 3 k) hr (pa_cons (pv 0) pa_nil))) (pss_cons (ps_expr (pe_cal W (by omega : 2 ≤ k + 3) hr (pa_cons (pv 0) (pa_cons (pv 1) pa_nil))))
    (pss_one (ps_ret (pe_not (pe_callB (cr_any rfl) (by rfl) ma boot_any (pa_cons (pe_lc (own := [("one", 2), ("other", 3)]) (g := gTup K 2 (gCons (gName 2) (gCons (gName 3) gNil))) (tt := tYes) rfl sc26.nd (pi_tup (pe_ix ix_tup (pv 0) pe_int (fun _ _ => rfl)))
      (blkOk_by (N := ["company", "word", "one", "other"]) (sc := defScope (top 26)) (by decide +kernel))
      (fun _ _ _ _ _ => pg_tup rfl (pgs_cons (pg_name (i := 2) sc26.nd rfl (.inl rfl)) (pgs_cons (pg_name (i := 3) sc26.nd rfl (.inl rfl)) pgs_nil))) (fun _ _ _ _ _ => pts_nil)
      (fun _ _ _ _ _ => pe_and (pe_cmpR op_notInS (pe_ix ix_str (pe_glob (v := .str "abcdefg") (by rfl) mA ⟨_, rfl⟩) (pv 2) (fun _ _ => rfl)) (pv 1) (by rfl))
        (pe_one (pe_cmpR op_notInS (pe_ix ix_str (pe_glob (v := .str "abcdefg") (by rfl) mA ⟨_, rfl⟩) (pv 3) (fun _ _ => rfl)) (pv 1) (by rfl))))) pa_nil)))))), ?_⟩
  refine r_drop (er_c1 (er_var rfl hx mn_co) hC) fun H1 e1 => r_drop (er_c2 (er_var rfl (mn_co _ _ _ _ e1 hx) mn_co) (er_var (a := l) rfl rfl mn_S) mn_co hG) fun H2 e2 => ?_
  have hp4 : ∀ p ∈ ps, p.1 < 7 ∧ p.2 < 7 := fun p hp => by
    obtain ⟨h1, h2⟩ := hC.2.2.1 p hp
    have h3 := hC.1.2
    change p.2 < n at h2
    change n ≤ 4 at h3
    omega
  refine s_ret (ev_notV (ev_anyL (er_lc (R := rPr) (as := ps) (S := rBl) (fun _ => true) (fun p => !decide (97 + p.1 ∈ l) && !decide (97 + p.2 ∈ l)) (ei_tup (er_snd (er_var rfl (mn_co _ _ _ _ (e1.trans e2) hx) mn_co) (mn_T mn_pr) fun _ _ => ev_c) mn_pr) mt_S (by have := hC.2.1; change ps.length ≤ 6 at this; omega) tg_pair
    fun a z H4 e4 ha ra => ⟨rfl, fun _ _ _ q => q _ (Ex.refl _), fun _ => ?_⟩))) fun H3 e3 => q _ H3 ((e1.trans e2).trans e3) ?_
  · obtain ⟨h1, h2⟩ := hp4 a ha
    exact er_ev (f := V.bl) (ev_andV (ev_ni (er_sign ev_c (er_var rfl (a := a.1) rfl mn_S) h1) (er_var rfl rfl mn_S)) fun _ => ev_ni (er_sign ev_c (er_var rfl (a := a.2) rfl mn_S) h2) (er_var rfl rfl mn_S))
  · rw [filt_true]
    rfl
/-! ### shortest_gathering -/
theorem sc27 : FnScope ["company", "best", "told", "one", "other"] ["company"] (defScope (top 27)) := ⟨rfl, rfl, rfl, by decide +kernel, rfl, by decide +kernel, by decide +kernel⟩
abbrev spSho : Sp := sp1 rCo OkC rOX shortF
theorem ev_befL {x y : List Nat} {t1 t2 : TE} (hx : x.length ≤ 1000) (hy : y.length ≤ 1000) {σ : L2.St} {H : Hp} (h1 : ∀ H1, Ex H H1 → Ev t1 σ H1 (.str (tx x))) (h2 : ∀ H1, Ex H H1 → Ev t2 σ H1 (.str (tx y))) :
    Ev (tOp (R2.rLtD K) (tTup (tCons (tCB (fun xs H Q => ∃ z, xs = [.str z] ∧ z.length ≤ sizeLine ∧ Q (.int z.length) H) (tCons t1 tNil)) (tCons t1 tNil))) (tTup (tCons (tCB (fun xs H Q => ∃ z, xs = [.str z] ∧ z.length ≤ sizeLine ∧ Q (.int z.length) H) (tCons t2 tNil)) (tCons t2 tNil)))) σ H (.bl (befL x y)) := by
  refine ev_er (f := V.bl) (er_op (R := rP rI rX) (S := rP rI rX) (a := ((x.length : Int), x)) (b := ((y.length : Int), y)) (er_pair (er_ev (f := V.int) (ev_lenX (by omega) (h1 H (Ex.refl _)))) (er_ev (f := fun l => V.str (tx l)) (h1 H (Ex.refl _))) mn_S mn_S)
    (er_pair (er_ev (f := V.int) (ev_lenX (by omega) (h2 H (Ex.refl _)))) (er_ev (f := fun l => V.str (tx l)) (h2 H (Ex.refl _))) mn_S mn_S) (mn_P mn_S mn_S) fun v v2 H1 e1 r1 r2 Q q => ?_)
  obtain ⟨p, a1, a2, rfl, hp, ha1, ha2⟩ := r1
  obtain ⟨p', b1, b2, rfl, hp', hb1, hb2⟩ := r2
  cases ha1
  cases ha2
  cases hb1
  cases hb2
  refine ⟨.tuple [.int x.length, .str (tx x)], .tuple [.int y.length, .str (tx y)], .tup (st_of hp) (.cons (.int _) (.cons (.str _) .nil)), .tup (st_of hp') (.cons (.int _) (.cons (.str _) .nil)), rfl, (fun z => nomatch z), Nat.le_trans (Nat.min_le_left _ _) (by simp [PyData.depth, PyData.depthAll]), q _ H1 (Ex.refl _) ?_⟩
  rw [R2.lt_is]
  rfl
theorem ok_sho {g1 g2 : Addr} {gd1 gd2 : FuncData} {tA : Tok} (F : Fun K "shortest_gathering" "shortest_gathering" (top 27) f fd) (C : Cal P w K mg base 3 "need_company" g1 gd1 ["company"] spCom) (W : Cal P w K mg base 1 "all_sets" g2 gd2 ["many"] spSets)
    (mA : mg "ALPHABET" = some (.str "abcdefg" tA)) (ma : mg "all" = none) (ml : mg "len" = none) : FnOk P w K mg base CX0 (k + 4) f fd ["company"] spSho := by
  refine F.ok sc27 (fun vs H Q E h => ?_) (fun cdv A outer s H vs Q E hr h => ?_)
  · obtain ⟨x, a, rfl, _⟩ := h
    rfl
  obtain ⟨x, ⟨n, ps⟩, rfl, hx, hC, q⟩ := h
  have hn4 : n ≤ 4 := hC.1.2
  refine ⟨_, pss_cons (ps_expr (pe_cal C (Nat.le_add_left 3 k) hr (pa_cons (pv 0) pa_nil))) (pss_cons (ps_set (i := 1) sc27.nd rfl (.inl rfl) pe_non)
    (pss_cons (ps_for PassesOwn.never rfl (pi_list (pe_cal W (by omega : 1 ≤ k + 3) hr (pa_cons (pe_ix ix_tup (pv 0) pe_int (fun _ _ => rfl)) pa_nil))) (pg_name (i := 2) sc27.nd rfl (.inr rfl))
      (pss_one (ps_if (pt_val (pe_callB (cr_all rfl) (by rfl) ma boot_all (pa_cons (pe_lc (own := [("one", 3), ("other", 4)]) (g := gTup K 2 (gCons (gName 3) (gCons (gName 4) gNil))) (tt := tYes) rfl sc27.nd (pi_tup (pe_ix ix_tup (pv 0) pe_int (fun _ _ => rfl)))
          (blkOk_by (N := ["company", "best", "told", "one", "other"]) (sc := defScope (top 27)) (by decide +kernel))
          (fun _ _ _ _ _ => pg_tup rfl (pgs_cons (pg_name (i := 3) sc27.nd rfl (.inl rfl)) (pgs_cons (pg_name (i := 4) sc27.nd rfl (.inl rfl)) pgs_nil))) (fun _ _ _ _ _ => pts_nil)
          (fun _ _ _ _ _ => pe_or (pe_cmpR op_inS (pe_ix ix_str (pe_glob (v := .str "abcdefg") (by rfl) mA ⟨_, rfl⟩) (pv 3) (fun _ _ => rfl)) (pv 2) (by rfl))
            (pe_one (pe_cmpR op_inS (pe_ix ix_str (pe_glob (v := .str "abcdefg") (by rfl) mA ⟨_, rfl⟩) (pv 4) (fun _ _ => rfl)) (pv 2) (by rfl))))) pa_nil)))
        (pss_one (ps_if (pw_or (pt_cmpR op_isN1 (pv 1) pe_non (nomark _)) (pw_or1 (pt_cmpR (R2.op_ltD hr.units) (pe_tup (pa_cons (pe_callB call_len_str (by rfl) ml boot_len (pa_cons (pv 2) pa_nil)) (pa_cons (pv 2) pa_nil)))
            (pe_tup (pa_cons (pe_callB call_len_str (by rfl) ml boot_len (pa_cons (pv 1) pa_nil)) (pa_cons (pv 1) pa_nil))) (nomark _)))).pt (pss_one (ps_set (i := 1) sc27.nd rfl (.inl rfl) (pv 2))) pss_nil)) pss_nil)))
    (pss_one (ps_ret (pv 1))))), ?_⟩
  refine r_drop (er_c1 (er_var rfl hx mn_co) hC) fun H1 e1 => q_asg ev_c fun H1' e1' => ?_
  have hp4 : ∀ p ∈ ps, p.1 < 7 ∧ p.2 < 7 := fun p hp => by
    obtain ⟨h1, h2⟩ := hC.2.2.1 p hp
    have h3 := hC.1.2
    change p.2 < n at h2
    change n ≤ 4 at h3
    omega
  refine r_fold (R := rX) (as := allSets n) (bestOf ps) none (fun c σ' H' => Ex H H' ∧ (∀ b, c = some b → b.length ≤ 4) ∧ ∃ v y2 y3 y4, σ' = [some x, some v, y2, y3, y4] ∧ rOX H' v c) (ei_list (er_c1 (er_imp (er_fst (er_var rfl (mn_co _ _ _ _ (e1.trans e1') hx) mn_co) mn_S fun _ _ => ev_c) fun _ _ _ r => r) hn4) mn_S) tg_name
    (fun H2 e2 => ⟨(e1.trans e1').trans e2, (fun b z => nomatch z), _, _, _, _, rfl, rfl⟩) (fun H2 e2 c t v σ' H' e3 ht rt hJ => ?_) (fun c σ' H' H'' e h => ?_) fun σ' H' e2 hJ => ?_
  · obtain ⟨eH, hc4, b, y2, y3, y4, rfl, rb⟩ := hJ
    cases rt
    have ht4 := allSets_mem hn4 t ht
    refine s_when (b := coverF ps t) (et_B (ev_is (ev_allL (er_lc (R := rPr) (as := ps) (S := rBl) (fun _ => true) (fun p => decide (97 + p.1 ∈ t) || decide (97 + p.2 ∈ t)) (ei_tup (er_snd (er_var rfl (mn_co _ _ _ _ eH hx) mn_co) (mn_T mn_pr) fun _ _ => ev_c) mn_pr) mt_S (by have := hC.2.1; change ps.length ≤ 6 at this; omega) tg_pair
      fun a z H4 e4 ha ra => ⟨rfl, fun _ _ _ q => q _ (Ex.refl _), fun _ => ?_⟩)) (by rw [filt_true]; rfl))) (fun hcv H4 e4 => ?_) fun hcv H4 e4 => ?_
    · obtain ⟨h1, h2⟩ := hp4 a ha
      exact er_ev (f := V.bl) (ev_orV (ev_in (er_sign ev_c (er_var rfl (a := a.1) rfl mn_S) h1) (er_var rfl rfl mn_S)) fun _ => ev_in (er_sign ev_c (er_var rfl (a := a.2) rfl mn_S) h2) (er_var rfl rfl mn_S))
    · cases c with
      | none =>
        cases rb
        rw [best_none hcv]
        refine s_when (b := true) (et_is (et_or (b := false) (et_isN (ev_var (v := .non) rfl)) (fun z => nomatch z)) rfl) (fun _ H5 e5 => s_asg (ev_var rfl) fun H6 e6 => ⟨e3.trans (e4.trans (e5.trans e6)), eH.trans (e4.trans (e5.trans e6)), fun b hb => by cases hb; exact ht4, _, _, _, _, rfl, rfl⟩) (fun z => nomatch z)
      | some y =>
        cases rb
        rw [best_some hcv]
        have hy4 := hc4 y rfl
        refine s_when (b := befL t y) (et_is (et_or (b := befL t y) (et_isN (ev_var (v := .str (tx y)) rfl)) (fun _ => et_test (ev_befL (by omega) (by omega) (fun _ _ => ev_var rfl) fun _ _ => ev_var rfl))) (by rfl)) (fun hb H5 e5 => s_asg (ev_var rfl) fun H6 e6 => ?_) (fun hb H5 e5 => ?_)
        · rw [if_pos hb]
          exact ⟨e3.trans (e4.trans (e5.trans e6)), eH.trans (e4.trans (e5.trans e6)), fun b hb2 => by cases hb2; exact ht4, _, _, _, _, rfl, rfl⟩
        · rw [if_neg (by rw [hb]; decide)]
          exact ⟨e3.trans (e4.trans e5), eH.trans (e4.trans e5), fun b hb2 => by cases hb2; exact hy4, _, _, _, _, rfl, rfl⟩
    · rw [best_no hcv]
      exact ⟨e3.trans e4, eH.trans e4, hc4, _, _, _, _, rfl, rb⟩
  · obtain ⟨eH, hc4, b, y2, y3, y4, rfl, rb⟩ := h
    exact ⟨eH.trans e, hc4, b, y2, y3, y4, rfl, rb⟩
  · obtain ⟨eH, hc4, b, y2, y3, y4, rfl, rb⟩ := hJ
    cases rb
    exact s_ret (ev_var rfl) fun H3 e3 => q _ H3 (eH.trans e3) rfl
end
end F1
set_option Elab.async false
set_option linter.all false
set_option maxRecDepth 100000
set_option maxHeartbeats 1000000
namespace F1
open PySem PySem.Spec PyProof.Rows L2 Evl
def restF (n : Nat) (s : List Nat) : List Nat := (alph n).filter fun x => !decide (x ∈ s)
def covL (l s : List Nat) : Bool := (l.map fun x => decide (x ∈ s)).all id
def shStep (c : Nat × List (Nat × Nat)) (l : List Nat) (acc : Int) (s : List Nat) : Int :=
  if covL l s = true then acc + (if ((s.length : Int) - (l.length : Int)) % 2 = 0 then ((countOf c.2 (restF c.1 s) : Nat) : Int) else -((countOf c.2 (restF c.1 s) : Nat) : Int)) else acc
def shareF (c : Nat × List (Nat × Nat)) (l : List Nat) : Int := (allSets c.1).foldl (shStep c l) 0
def stayF (c : Nat × List (Nat × Nat)) (m : Nat) : Int := (allSets c.1).foldl (fun acc s => acc + shareF c s * ((s.length ^ m : Nat) : Int)) 0
theorem countOf_le (ps : List (Nat × Nat)) (l : List Nat) : countOf ps l ≤ 64 := cjF_le 6 _
theorem shStep_abs (c : Nat × List (Nat × Nat)) (l : List Nat) (acc : Int) (s : List Nat) : (shStep c l acc s).natAbs ≤ acc.natAbs + 64 := by
  unfold shStep
  have h := countOf_le c.2 (restF c.1 s)
  split
  · split <;> omega
  · omega
theorem shareF_abs (c : Nat × List (Nat × Nat)) (l : List Nat) (h : c.1 ≤ 4) : (shareF c l).natAbs ≤ 1024 := by
  have key : ∀ (ss : List (List Nat)) (acc : Int), (ss.foldl (shStep c l) acc).natAbs ≤ acc.natAbs + 64 * ss.length := by
    intro ss
    induction ss with
    | nil => intro acc; simp
    | cons s ss ih =>
      intro acc
      have h1 := ih (shStep c l acc s)
      have h2 := shStep_abs c l acc s
      rw [List.foldl_cons, List.length_cons]
      omega
  have h1 := key (allSets c.1) 0
  have h2 := allSets_len h
  unfold shareF
  have : (0 : Int).natAbs = 0 := rfl
  omega
section
variable {P : Program} {w : World} {K : PySem.W.Frag} {mg : Str → Option Value} {base : Heap} {f : Addr} {fd : FuncData} {k : Nat}
theorem sc29 : FnScope ["company", "letters", "found", "some", "rest", "step", "sign"] ["company", "letters"] (defScope (top 29)) := ⟨rfl, rfl, rfl, by decide +kernel, rfl, by decide +kernel, by decide +kernel⟩
abbrev spShO : Sp := sp2 rCo rX (fun c l => OkC c ∧ l.length ≤ 60) rI fun c l => shareF c l
theorem ok_shO {g1 g2 : Addr} {gd1 gd2 : FuncData} {tA : Tok} (F : Fun K "share_of" "share_of" (top 29) f fd) (W : Cal P w K mg base 1 "all_sets" g1 gd1 ["many"] spSets) (C : Cal P w K mg base 8 "count_of" g2 gd2 ["company", "letters"] spCnt)
    (mA : mg "ALPHABET" = some (.str "abcdefg" tA)) (ma : mg "all" = none) (ml : mg "len" = none) : FnOk P w K mg base CX0 (k + 9) f fd ["company", "letters"] spShO := by
  refine F.ok sc29 (fun vs H Q E h => ?_) (fun cdv A outer s H vs Q E hr h => ?_)
  · obtain ⟨x, y, a, b, rfl, _⟩ := h
    rfl
  obtain ⟨x, y, ⟨n, ps⟩, l, rfl, hx, hy, ⟨hC, hl⟩, q⟩ := h
  cases hy
  have hn4 : n ≤ 4 := hC.1.2
  refine ⟨_, pss_cons (ps_set (i := 2) sc29.nd rfl (.inl rfl) pe_int)
    (pss_cons (ps_for PassesOwn.never rfl (pi_list (pe_cal W (by omega : 1 ≤ k + 8) hr (pa_cons (pe_ix ix_tup (pv 0) pe_int (fun _ _ => rfl)) pa_nil))) (pg_name (i := 3) sc29.nd rfl (.inr rfl))
      (pss_one (ps_if (pt_val (pe_callB (cr_all rfl) (by rfl) ma boot_all (pa_cons (pe_lc (own := [("sign", 6)]) (g := gName 6) (tt := tYes) rfl sc29.nd (pi_str (pv 1))
          (blkOk_by (N := ["company", "letters", "found", "some", "rest", "step", "sign"]) (sc := defScope (top 29)) (by decide +kernel))
          (fun _ _ _ _ _ => pg_name (i := 6) sc29.nd rfl (.inl rfl)) (fun _ _ _ _ _ => pts_nil) (fun _ _ _ _ _ => pe_cmpR op_inS (pv 6) (pv 3) (by rfl))) pa_nil)))
        (pss_cons (ps_set (i := 4) sc29.nd rfl (.inl rfl) (pe_join pe_str (pe_lc (own := [("sign", 6)]) (g := gName 6) rfl sc29.nd (pi_str (pe_slice sl_str (pe_glob (v := .str "abcdefg") (by rfl) mA ⟨_, rfl⟩) po_none (po_some (pe_ix ix_tup (pv 0) pe_int (fun _ _ => rfl)))))
          (blkOk_by (N := ["company", "letters", "found", "some", "rest", "step", "sign"]) (sc := defScope (top 29)) (by decide +kernel))
          (fun _ _ _ _ _ => pg_name (i := 6) sc29.nd rfl (.inl rfl)) (fun _ _ _ _ _ => pts_one (pt_cmpR op_notInS (pv 6) (pv 3) (by rfl))) (fun _ _ _ _ _ => pv 6))))
        (pss_cons (ps_set (i := 5) sc29.nd rfl (.inl rfl) (pe_cal C (by omega : 8 ≤ k + 8) hr (pa_cons (pv 0) (pa_cons (pv 4) pa_nil))))
        (pss_one (ps_aug (i := 2) sc29.nd rfl (.inl rfl) (pe_ifExp (pt_cmpR op_eq (pe_op op_mod (pe_op op_sub (pe_callB call_len_str (by rfl) ml boot_len (pa_cons (pv 3) pa_nil)) (pe_callB call_len_str (by rfl) ml boot_len (pa_cons (pv 1) pa_nil))) pe_int) pe_int (nomark _)) (pv 5) (pe_un un_neg (pv 5))) ip_add)))) pss_nil)))
    (pss_one (ps_ret (pv 2)))), ?_⟩
  refine q_asg ev_c fun H1 e1 => ?_
  refine r_fold (R := rX) (as := allSets n) (shStep (n, ps) l) 0 (fun c σ' H' => Ex H H' ∧ ∃ y3 y4 y5 y6, σ' = [some x, some (.str (tx l)), some (.int c), y3, y4, y5, y6]) (ei_list (er_c1 (er_imp (er_fst (er_var rfl (mn_co _ _ _ _ e1 hx) mn_co) mn_S fun _ _ => ev_c) fun _ _ _ r => r) hn4) mn_S) tg_name
    (fun H2 e2 => ⟨e1.trans e2, _, _, _, _, rfl⟩) (fun H2 e2 c t v σ' H' e3 ht rt hJ => ?_) (fun c σ' H' H'' e h => ?_) fun σ' H' e2 hJ => ?_
  · obtain ⟨eH, y3, y4, y5, y6, rfl⟩ := hJ
    cases rt
    have ht4 := allSets_mem hn4 t ht
    refine s_when (b := covL l t) (et_B (ev_is (ev_allL (er_lc (R := rC) (as := l) (S := rBl) (fun _ => true) (fun p => decide (p ∈ t)) (ei_str (er_var rfl rfl mn_S)) mt_S (by omega) tg_name
      fun a z H4 e4 ha ra => ⟨rfl, fun _ _ _ q => q _ (Ex.refl _), fun _ => er_ev (ev_in (er_var rfl ra mn_S) (er_var rfl rfl mn_S))⟩)) (by rw [filt_true]; rfl))) (fun hcv H4 e4 => ?_) fun hcv H4 e4 => ?_
    · refine r_set (R := rX) (a := restF n t) (er_join ev_c (er_is (er_lc (R := rC) (as := alph n) (S := rC) (fun x => !decide (x ∈ t)) (fun x => x) (ei_str (er_alph ev_c (fun H6 e6 => ev_vr (er_fst (er_var rfl (mn_co _ _ _ _ ((eH.trans e4).trans e6) hx) mn_co) mn_S fun _ _ => ev_c) rfl) (by omega))) mt_S (by rw [alph_len]; omega) tg_name
        fun a z H5 e5 ha ra => ⟨rfl, et_test (ev_ni (er_var rfl ra mn_S) (er_var rfl rfl mn_S)), fun _ => er_var rfl ra mn_S⟩) (by rw [List.map_id']; rfl)) ?_) fun v4 H5 e5 r4 => ?_
      · have := List.length_filter_le (fun x => !decide (x ∈ t)) (alph n)
        rw [alph_len] at this
        unfold restF
        omega
      · cases r4
        refine r_set (R := rN) (a := countOf ps (restF n t)) (er_c2 (er_var rfl (mn_co _ _ _ _ ((eH.trans e4).trans e5) hx) mn_co) (er_var (a := restF n t) rfl rfl mn_S) mn_co ⟨hC, ?_⟩) fun v5 H6 e6 r5 => ?_
        · have := List.length_filter_le (fun x => !decide (x ∈ t)) (alph n)
          rw [alph_len] at this
          unfold restF
          omega
        · cases r5
          have hd : Ev (tIf (tTest (tOp rEq (tOp (L2.rI (fun _ j => 0 < j) fun i j => V.int (i % j)) (tOp (rI0 fun i j => V.int (i - j)) (tCB (fun xs H Q => ∃ z, xs = [V.str z] ∧ z.length ≤ sizeLine ∧ Q (V.int z.length) H) (tCons (tVar 3) tNil)) (tCB (fun xs H Q => ∃ z, xs = [V.str z] ∧ z.length ≤ sizeLine ∧ Q (V.int z.length) H) (tCons (tVar 1) tNil))) (tC (.int 2))) (tC (.int 0))))
              (tVar 5) (tUn (L2.rU fun i => V.int (-i)) (tVar 5))) [some x, some (.str (tx l)), some (.int c), some (.str (tx t)), some (.str (tx (restF n t))), some (.int (countOf ps (restF n t) : Nat)), y6] H6
              (.int (if ((t.length : Int) - (l.length : Int)) % 2 = 0 then ((countOf ps (restF n t) : Nat) : Int) else -((countOf ps (restF n t) : Nat) : Int))) := by
            refine ev_if (et_test (ev_op (ev_op (ev_op (ev_lenX (by omega) (ev_var rfl)) (ev_lenX (by omega) (ev_var rfl)) rv_I0) ev_c (rv_I (by show (0 : Int) < 2; omega))) ev_c (rv_eq rfl))) (fun h => ?_) fun h => ?_
            · have h2 : ((t.length : Int) - (l.length : Int)) % 2 = 0 := V.int.inj (of_decide_eq_true h)
              rw [if_pos h2]
              exact ev_var rfl
            · have h2 : ¬ ((t.length : Int) - (l.length : Int)) % 2 = 0 := fun z => of_decide_eq_false h (congrArg V.int z)
              rw [if_neg h2]
              exact ev_un (ev_var rfl) ru_neg
          have hsh : shStep (n, ps) l c t = c + (if ((t.length : Int) - (l.length : Int)) % 2 = 0 then ((countOf ps (restF n t) : Nat) : Int) else -((countOf ps (restF n t) : Nat) : Int)) := by
            unfold shStep
            rw [if_pos hcv]
          rw [hsh]
          exact s_aug (f := fun i j => i + j) (a := c) rfl hd fun H7 e7 => ⟨e3.trans (e4.trans (e5.trans (e6.trans e7))), eH.trans (e4.trans (e5.trans (e6.trans e7))), some (.str (tx t)), some (.str (tx (restF n t))), some (.int (countOf ps (restF n t) : Nat)), y6, rfl⟩
    · have : shStep (n, ps) l c t = c := by
        unfold shStep
        rw [if_neg (by rw [hcv]; decide)]
      rw [this]
      exact ⟨e3.trans e4, eH.trans e4, _, _, _, _, rfl⟩
  · obtain ⟨eH, y3, y4, y5, y6, rfl⟩ := h
    exact ⟨eH.trans e, _, _, _, _, rfl⟩
  · obtain ⟨eH, y3, y4, y5, y6, rfl⟩ := hJ
    exact s_ret (ev_var rfl) fun H3 e3 => q _ H3 (eH.trans e3) rfl
theorem sc30 : FnScope ["company", "letters"] ["company", "letters"] (defScope (top 30)) := ⟨rfl, rfl, rfl, by decide +kernel, rfl, by decide +kernel, by decide +kernel⟩
abbrev spSha : Sp := sp2 rCo rX OkS rI fun c l => shareF c l
theorem ok_sha {g1 g2 g3 : Addr} {gd1 gd2 gd3 : FuncData} (F : Fun K "share" "share" (top 30) f fd) (C : Cal P w K mg base 3 "need_company" g1 gd1 ["company"] spCom) (W : Cal P w K mg base 2 "need_set" g2 gd2 ["company", "letters"] spNeedS) (S : Cal P w K mg base 9 "share_of" g3 gd3 ["company", "letters"] spShO) :
    FnOk P w K mg base CX0 (k + 10) f fd ["company", "letters"] spSha := by
  refine F.ok sc30 (fun vs H Q E h => ?_) (fun cdv A outer s H vs Q E hr h => ?_)
  · obtain ⟨x, y, a, b, rfl, _⟩ := h
    rfl
  obtain ⟨x, y, ⟨n, ps⟩, l, rfl, hx, hy, hS, q⟩ := h
  cases hy
  refine ⟨_, pss_cons (ps_expr (pe_cal C (by omega : 3 ≤ k + 9) hr (pa_cons (pv 0) pa_nil))) (pss_cons (ps_expr (pe_cal W (by omega : 2 ≤ k + 9) hr (pa_cons (pv 0) (pa_cons (pv 1) pa_nil))))
    (pss_one (ps_ret (pe_cal S (by omega : 9 ≤ k + 9) hr (pa_cons (pv 0) (pa_cons (pv 1) pa_nil)))))), ?_⟩
  refine r_drop (er_c1 (er_var rfl hx mn_co) hS.1) fun H1 e1 => r_drop (er_c2 (er_var rfl (mn_co _ _ _ _ e1 hx) mn_co) (er_var (a := l) rfl rfl mn_S) mn_co hS) fun H2 e2 => ?_
  refine r_ret (er_c2 (er_var rfl (mn_co _ _ _ _ (e1.trans e2) hx) mn_co) (er_var (a := l) rfl rfl mn_S) mn_co ⟨hS.1, ?_⟩) fun v H3 e3 r => q v H3 ((e1.trans e2).trans e3) r
  have h1 := hS.2.1
  have h2 := hS.1.1.2
  omega
theorem sc28 : FnScope ["company", "length", "found", "some"] ["company", "length"] (defScope (top 28)) := ⟨rfl, rfl, rfl, by decide +kernel, rfl, by decide +kernel, by decide +kernel⟩
abbrev spSta : Sp := sp2 rCo rN (fun c m => OkC c ∧ m ≤ 60) rI fun c m => stayF c m
theorem ok_sta {g1 g2 g3 g4 g5 : Addr} {gd1 gd2 gd3 gd4 gd5 : FuncData} {tM : Tok} (F : Fun K "staying" "staying" (top 28) f fd) (C : Cal P w K mg base 3 "need_company" g1 gd1 ["company"] spCom) (N : Cal P w K mg base 3 "need_number" g2 gd2 ["value", "low", "high"] spNum)
    (W : Cal P w K mg base 1 "all_sets" g3 gd3 ["many"] spSets) (S : Cal P w K mg base 9 "share_of" g4 gd4 ["company", "letters"] spShO) (Pw : Cal P w K mg base 1 "power" g5 gd5 ["base", "exponent"] spPow) (mM : mg "MOST_WORD" = some (.int 60 tM)) (ml : mg "len" = none) :
    FnOk P w K mg base CX0 (k + 10) f fd ["company", "length"] spSta := by
  refine F.ok sc28 (fun vs H Q E h => ?_) (fun cdv A outer s H vs Q E hr h => ?_)
  · obtain ⟨x, y, a, b, rfl, _⟩ := h
    rfl
  obtain ⟨x, y, ⟨n, ps⟩, m, rfl, hx, hy, ⟨hC, hm⟩, q⟩ := h
  cases hy
  have hn4 : n ≤ 4 := hC.1.2
  refine ⟨_, pss_cons (ps_expr (pe_cal C (by omega : 3 ≤ k + 9) hr (pa_cons (pv 0) pa_nil))) (pss_cons (ps_expr (pe_cal N (by omega : 3 ≤ k + 9) hr (pa_cons (pv 1) (pa_cons pe_int (pa_cons (pe_glob (v := .int 60) (by rfl) mM ⟨_, rfl⟩) pa_nil)))))
    (pss_cons (ps_set (i := 2) sc28.nd rfl (.inl rfl) pe_int)
    (pss_cons (ps_for PassesOwn.never rfl (pi_list (pe_cal W (by omega : 1 ≤ k + 9) hr (pa_cons (pe_ix ix_tup (pv 0) pe_int (fun _ _ => rfl)) pa_nil))) (pg_name (i := 3) sc28.nd rfl (.inl rfl))
      (pss_one (ps_aug (i := 2) sc28.nd rfl (.inl rfl) (pe_op op_mulW (pe_cal S (by omega : 9 ≤ k + 9) hr (pa_cons (pv 0) (pa_cons (pv 3) pa_nil))) (pe_cal Pw (by omega : 1 ≤ k + 9) hr (pa_cons (pe_callB call_len_str (by rfl) ml boot_len (pa_cons (pv 3) pa_nil)) (pa_cons (pv 1) pa_nil)))) ip_add)))
    (pss_one (ps_ret (pv 2)))))), ?_⟩
  refine r_drop (er_c1 (er_var rfl hx mn_co) hC) fun H1 e1 => r_drop (er_c3 (er_var (R := rI) (a := (m : Int)) rfl rfl mn_S) (er_ev (f := V.int) ev_c) (er_ev (f := V.int) ev_c) mn_S mn_S (by omega)) fun H2 e2 => q_asg ev_c fun H3 e3 => ?_
  have e13 := (e1.trans e2).trans e3
  refine r_fold (R := rX) (as := allSets n) (fun acc s => acc + shareF (n, ps) s * ((s.length ^ m : Nat) : Int)) 0 (fun c σ' H' => Ex H H' ∧ ∃ y3, σ' = [some x, some (.int (m : Int)), some (.int c), y3]) (ei_list (er_c1 (er_imp (er_fst (er_var rfl (mn_co _ _ _ _ e13 hx) mn_co) mn_S fun _ _ => ev_c) fun _ _ _ r => r) hn4) mn_S) tg_name
    (fun H2 e2 => ⟨e13.trans e2, _, rfl⟩) (fun H2 e2 c t v σ' H' e4 ht rt hJ => ?_) (fun c σ' H' H'' e h => ?_) fun σ' H' e2 hJ => ?_
  · obtain ⟨eH, y3, rfl⟩ := hJ
    cases rt
    have ht4 := allSets_mem hn4 t ht
    refine s_aug (f := fun i j => i + j) (a := c) (b := shareF (n, ps) t * ((t.length ^ m : Nat) : Int)) rfl (ev_op (ev_vr (er_c2 (er_var rfl (mn_co _ _ _ _ eH hx) mn_co) (er_var (a := t) rfl rfl mn_S) mn_co ⟨hC, by omega⟩) rfl)
      (ev_vr (f := fun n : Nat => V.int (n : Int)) (er_c2 (er_lenX (by omega) (er_var (a := t) rfl rfl mn_S)) (er_var (a := m) rfl rfl mn_S) mn_S ⟨ht4, hm⟩) rfl) (rv_I ?_)) fun H7 e7 => ⟨e4.trans e7, eH.trans e7, _, rfl⟩
    have h1 := shareF_abs (n, ps) t hn4
    have h2 := pow_lt ht4 hm
    refine wide_mul (a := 130) (b := 130) ?_ ?_ (by omega) (by omega) (by omega)
    · have : (1024 : Nat) < 2 ^ 130 := by decide +kernel
      omega
    · rw [Int.natAbs_natCast]
      exact h2
  · obtain ⟨eH, y3, rfl⟩ := h
    exact ⟨eH.trans e, _, rfl⟩
  · obtain ⟨eH, y3, rfl⟩ := hJ
    exact s_ret (ev_var rfl) fun H3 e3 => q _ H3 (eH.trans e3) rfl
end
end F1
set_option Elab.async false
set_option linter.all false
set_option maxRecDepth 100000
set_option maxHeartbeats 1000000
namespace F1
open PySem PySem.Spec PyProof.Rows L2 Evl
/-- all but what stands at r -/
def ExB (r : Addr) (H H' : Hp) : Prop := ∀ a o, a ≠ r → H a = some o → H' a = some o
theorem ExB.refl {r : Addr} {H : Hp} : ExB r H H := fun _ _ _ h => h
theorem ExB.trans {r : Addr} {H H1 H2 : Hp} (a : ExB r H H1) (b : ExB r H1 H2) : ExB r H H2 := fun x o n h => b x o n (a x o n h)
theorem ExB.of {r : Addr} {H H' : Hp} (e : Ex H H') : ExB r H H' := fun a o _ h => e a o h
theorem ExB.set {r : Addr} {H H' : Hp} {o : HO} (e : ExB r H H') : ExB r H (upd H' r o) := fun a u n h => by
  rw [upd_ne n]
  exact e a u n h
theorem ExB.tp {r : Addr} {H H' : Hp} {xs : List V} (e : ExB r H H') (h : H r = some (.lst xs)) : Tp H H' := fun a us ha => e a _ (fun z => by rw [z, h] at ha; cases ha) ha
theorem ExB.lst {r p : Addr} {H H' : Hp} {xs : List V} (e : ExB r H H') (hp : p ≠ r) (h : H p = some (.lst xs)) : H' p = some (.lst xs) := e p _ hp h
/-- the row of a law's draws -/
structure RowAt (K : PySem.W.Frag) (H : Hp) (r s : Addr) (i x y : Int) (ns : List Int) : Prop where
  at_ : H r = some (.lst [.ref s, .int i, .int x, .int y])
  scr : SqL K H s (ns.map V.int)
  i0 : 0 ≤ i
  x0 : 0 ≤ x
  x1 : x < 2147483647
def RowOk (K : PySem.W.Frag) (s : Addr) (ns : List Int) (H : Hp) (r : Addr) : Prop := ∃ i x y, RowAt K H r s i x y ns
section
variable {K : PySem.W.Frag} {H H' : Hp} {r s : Addr} {i x y : Int} {ns : List Int}
theorem RowAt.ex (h : RowAt K H r s i x y ns) (e : Ex H H') : RowAt K H' r s i x y ns := ⟨e _ _ h.at_, ex_l e h.scr, h.i0, h.x0, h.x1⟩
theorem RowOk.ex (h : RowOk K s ns H r) (e : Ex H H') : RowOk K s ns H' r := by
  obtain ⟨i, x, y, h⟩ := h
  exact ⟨i, x, y, h.ex e⟩
theorem RowOk.lst (h : RowOk K s ns H r) : ∃ xs, H r = some (.lst xs) := by
  obtain ⟨i, x, y, h⟩ := h
  exact ⟨_, h.at_⟩
theorem sq_upd {H4 H5 : Hp} {D : Addr} {o : HO} {xs : List V} (h4 : SqL K H4 s xs) (hD : H4 D = none) (h5 : SqL K H5 s xs) : SqL K (upd H5 D o) s xs := by
  rcases h4 with h4 | h4
  · have hne : s ≠ D := by
      rcases h4 with h4 | ⟨u, h4⟩
      · exact ne_of_none h4 hD
      · exact ne_of_none h4 hD
    rcases h5 with (h5 | ⟨u, h5⟩) | h5
    · exact .inl (.inl (by rw [upd_ne hne]; exact h5))
    · exact .inl (.inr ⟨u, by rw [upd_ne hne]; exact h5⟩)
    · exact .inr h5
  · exact .inr h4
/-- a new address changes -/
theorem RowOk.mut {H4 H5 : Hp} {D : Addr} {o : HO} (h4 : RowOk K s ns H4 r) (hD : H4 D = none) (h5 : RowOk K s ns H5 r) : RowOk K s ns (upd H5 D o) r := by
  obtain ⟨i4, x4, y4, h4⟩ := h4
  obtain ⟨i, x, y, h5⟩ := h5
  exact ⟨i, x, y, by rw [upd_ne (ne_of_none h4.at_ hD)]; exact h5.at_, sq_upd h4.scr hD h5.scr, h5.i0, h5.x0, h5.x1⟩
theorem RowAt.scr2 (h : RowAt K H r s i x y ns) {i' x' y' : Int} : SqL K (upd H r (.lst [.ref s, .int i', .int x', .int y'])) s (ns.map V.int) := by
  rcases h.scr with (h1 | ⟨o, h1⟩) | h1
  · by_cases hs : s = r
    · rw [hs, h.at_] at h1
      cases ns with
      | nil => cases h1
      | cons a l => cases h1
    · exact .inl (.inl (by rw [upd_ne hs]; exact h1))
  · by_cases hs : s = r
    · rw [hs, h.at_] at h1
      cases h1
    · exact .inl (.inr ⟨o, by rw [upd_ne hs]; exact h1⟩)
  · exact .inr h1
theorem RowAt.upd (h : RowAt K H r s i x y ns) {i' x' y' : Int} (h1 : 0 ≤ i') (h2 : 0 ≤ x') (h3 : x' < 2147483647) : RowAt K (upd H r (.lst [.ref s, .int i', .int x', .int y'])) r s i' x' y' ns := ⟨upd_same, h.scr2, h1, h2, h3⟩
end
section
variable {K : PySem.W.Frag} {σ : L2.St} {H : Hp} {te ta tb tc : TE}
theorem ev_int1 {i : Int} (h : Ev te σ H (.int i)) : Ev (tCB (fun xs H Q => (∃ i, xs = [.int i] ∧ Q (.int i) H) ∨ ∃ k, xs = [.bl k] ∧ Q (.int (if k then 1 else 0)) H) (tCons te tNil)) σ H (.int i) := fun H1 e Q q => h H1 e _ fun H2 e2 => .inl ⟨i, rfl, q H2 e2⟩
theorem ev_row {r : Addr} {xs : List V} {j : Int} {v : V} (h : H r = some (.lst xs)) (ha : Ev ta σ H (.ref r)) (hj : atI xs j = some v) : Ev (tOp (rIxL K) ta (tC (.int j))) σ H v := ev_op ha ev_c (rv_ixL (sq_of h) hj)
theorem ev_lenQ {p : Addr} {xs : List V} (h : SqL K H p xs) (ha : Ev ta σ H (.ref p)) : Ev (tCB (fun ys H Q => ∃ p zs, ys = [V.ref p] ∧ (SqL K H p zs ∨ SqT K H p zs) ∧ Q (.int zs.length) H) (tCons ta tNil)) σ H (.int (xs.length : Int)) := ev_len ha h
end
section
variable {P : Program} {w : World} {K : PySem.W.Frag} {mg : Str → Option Value} {base : Heap} {f : Addr} {fd : FuncData} {k : Nat}
theorem sc32 : FnScope ["_law_row", "_law_many", "_law_found", "_law_cell"] ["_law_row", "_law_many"] (defScope (top 32)) := ⟨rfl, rfl, rfl, by decide +kernel, rfl, by decide +kernel, by decide +kernel⟩
/-- a draw: some place below m; the row moves on, all else stays -/
def spTk (K : PySem.W.Frag) : Sp := fun vs H Q _ => ∃ (r s : Addr) (ns : List Int) (m : Nat), vs = [.ref r, .int (m : Int)] ∧ 1 ≤ m ∧ m ≤ 1000 ∧ RowOk K s ns H r ∧ ∀ j H2, j < m → ExB r H H2 → RowOk K s ns H2 r → Q (.int ((j : Nat) : Int)) H2
theorem ok_tk (F : Fun K "_law_taken" "_law_taken" (top 32) f fd) (mi : mg "int" = none) (ml : mg "len" = none) : FnOk P w K mg base CX0 (k + 1) f fd ["_law_row", "_law_many"] (spTk K) := by
  refine F.ok sc32 (fun vs H Q E h => ?_) (fun cdv A outer s H vs Q E hr h => ?_)
  · obtain ⟨r, _, _, m, rfl, _⟩ := h
    rfl
  obtain ⟨r, sc, ns, m, rfl, hm1, hm2, ⟨i, x, y, hR⟩, q⟩ := h
  refine ⟨_, pss_cons (ps_if (pt_cmpR op_gt (pe_ix ix_list (pv 0) pe_int (fun _ _ => rfl)) pe_int (nomark _))
      (pss_cons (ps_set (i := 2) sc32.nd rfl (.inl rfl) (pe_op op_mod (pe_callTy call_int1 (by rfl) mi (by decide +kernel) (pa_cons (pe_ix ix_list (pv 0) pe_int (fun _ _ => rfl)) pa_nil)) (pv 1)))
      (pss_cons (ps_asg (pe_op op_fdiv (pe_ix ix_list (pv 0) pe_int (fun _ _ => rfl)) (pv 1)) (pg_sub (pv 0) pe_int set_list))
      (pss_one (ps_ret (pv 2))))) pss_nil)
    (pss_cons (ps_asg (pe_op op_add (pe_ix ix_list (pv 0) pe_int (fun _ _ => rfl)) pe_int) (pg_sub (pv 0) pe_int set_list))
    (pss_cons (ps_if (pt_cmpR op_gt (pe_ix ix_list (pv 0) pe_int (fun _ _ => rfl)) (pe_callB call_len_seq (by rfl) ml boot_len (pa_cons (pe_ix ix_list (pv 0) pe_int (fun _ _ => rfl)) pa_nil)) (nomark _))
      (pss_cons (ps_asg (pe_op op_mod (pe_callTy call_int1 (by rfl) mi (by decide +kernel) (pa_cons (pe_op op_add (pe_op op_mulW (pe_ix ix_list (pv 0) pe_int (fun _ _ => rfl)) pe_int) pe_int) pa_nil)) pe_int) (pg_sub (pv 0) pe_int set_list))
      (pss_one (ps_ret (pe_op op_mod (pe_callTy call_int1 (by rfl) mi (by decide +kernel) (pa_cons (pe_op op_fdiv (pe_ix ix_list (pv 0) pe_int (fun _ _ => rfl)) pe_int) pa_nil)) (pv 1))))) pss_nil)
    (pss_cons (ps_set (i := 3) sc32.nd rfl (.inl rfl) (pe_ix ix_list (pe_ix ix_list (pv 0) pe_int (fun _ _ => rfl)) (pe_op op_sub (pe_ix ix_list (pv 0) pe_int (fun _ _ => rfl)) pe_int) (fun _ _ => rfl)))
    (pss_cons (ps_asg (pe_op op_mod (pe_callTy call_int1 (by rfl) mi (by decide +kernel) (pa_cons (pe_op op_add (pe_op op_add (pe_op op_mulW (pe_ix ix_list (pv 0) pe_int (fun _ _ => rfl)) pe_int) (pv 3)) pe_int) pa_nil)) pe_int) (pg_sub (pv 0) pe_int set_list))
    (pss_cons (ps_if (pt_cmpR op_ge (pv 3) (pe_op op_pow pe_int pe_int) (nomark _))
      (pss_one (ps_asg (pe_op op_fdiv (pv 3) (pv 1)) (pg_sub (pv 0) pe_int set_list))) pss_nil)
    (pss_one (ps_ret (pe_op op_mod (pe_callTy call_int1 (by rfl) mi (by decide +kernel) (pa_cons (pv 3) pa_nil)) (pv 1))))))))), ?_⟩
  have hmI : (0 : Int) < (m : Int) := by omega
  have fin : ∀ (z : Int), ∃ j : Nat, j < m ∧ z % (m : Int) = (j : Int) := fun z => by
    have h1 := Int.emod_nonneg z (show (m : Int) ≠ 0 by omega)
    have h2 := Int.emod_lt_of_pos z hmI
    exact ⟨(z % (m : Int)).toNat, by omega, by omega⟩
  have mulx : ∀ x : Int, 0 ≤ x → x < 2147483647 → CMulW x 48271 := fun x h1 h2 => by
    refine wide_mul (a := 40) (b := 40) ?_ ?_ (by omega) (by omega) (by omega)
    · omega
    · decide
  refine q_when (et_test (ev_op (ev_row hR.at_ (ev_var rfl) rfl) ev_c rv_I0)) (fun _ H1 e1 => ?_) fun _ H1 e1 => ?_
  · have h1 := hR.ex e1
    obtain ⟨j, hj, ej⟩ := fin y
    refine q_asg (ev_op (ev_int1 (ev_row h1.at_ (ev_var rfl) rfl)) (ev_var rfl) (rv_I hmI)) fun H2 e2 => ?_
    have h2 := h1.ex e2
    refine q_setL (j := 3) h2.at_ (ev_op (ev_row h2.at_ (ev_var rfl) rfl) (ev_var rfl) (rv_I ⟨hmI, by show (m : Int) < 1073741824; omega⟩)) (ev_var rfl) ev_c (by simp) fun H3 e3 => ?_
    refine s_ret (ev_var rfl) fun H4 e4 => ?_
    rw [ej]
    refine q j H4 hj (((ExB.of ((e1.trans e2).trans e3)).set).trans (ExB.of e4)) ?_
    exact RowOk.ex ⟨_, _, _, (h2.ex e3).upd h2.i0 h2.x0 h2.x1⟩ e4
  · have h1 := hR.ex e1
    refine q_setL (j := 1) h1.at_ (ev_op (ev_row h1.at_ (ev_var rfl) rfl) ev_c rv_I0) (ev_var rfl) ev_c (by simp) fun H2 e2 => ?_
    have h2 : RowAt K (upd H2 r (.lst [.ref sc, .int (i + 1), .int x, .int y])) r sc (i + 1) x y ns := (h1.ex e2).upd (by have := h1.i0; omega) h1.x0 h1.x1
    have eb2 : ExB r H (upd H2 r (.lst [.ref sc, .int (i + 1), .int x, .int y])) := (ExB.of (e1.trans e2)).set
    show tSeq _ _ _ _ (upd H2 r (.lst [.ref sc, .int (i + 1), .int x, .int y]))
    generalize upd H2 r (.lst [.ref sc, .int (i + 1), .int x, .int y]) = H3 at h2 eb2 ⊢
    refine q_when (et_test (ev_op (ev_row h2.at_ (ev_var rfl) rfl) (ev_lenQ h2.scr (ev_row h2.at_ (ev_var rfl) rfl)) rv_I0)) (fun _ H4 e4 => ?_) fun hlt H4 e4 => ?_
    · have h4 := h2.ex e4
      refine q_setL (j := 2) h4.at_ (ev_op (ev_int1 (ev_op (ev_op (ev_row h4.at_ (ev_var rfl) rfl) ev_c (rv_I (mulx x h4.x0 h4.x1))) ev_c rv_I0)) ev_c (rv_I (by show (0 : Int) < 2147483647; omega))) (ev_var rfl) ev_c (by simp) fun H5 e5 => ?_
      have hx0 : 0 ≤ (x * 48271 + 11) % 2147483647 := Int.emod_nonneg _ (by omega)
      have hx1 : (x * 48271 + 11) % 2147483647 < 2147483647 := Int.emod_lt_of_pos _ (by omega)
      have h5 : RowAt K (upd H5 r (.lst [.ref sc, .int (i + 1), .int ((x * 48271 + 11) % 2147483647), .int y])) r sc (i + 1) ((x * 48271 + 11) % 2147483647) y ns := (h4.ex e5).upd h4.i0 hx0 hx1
      have eb5 : ExB r H (upd H5 r (.lst [.ref sc, .int (i + 1), .int ((x * 48271 + 11) % 2147483647), .int y])) := (eb2.trans (ExB.of (e4.trans e5))).set
      show tRet _ _ _ (upd H5 r (.lst [.ref sc, .int (i + 1), .int ((x * 48271 + 11) % 2147483647), .int y]))
      obtain ⟨j, hj, ej⟩ := fin ((x * 48271 + 11) % 2147483647 / 7)
      refine s_ret (ev_op (ev_int1 (ev_op (ev_row h5.at_ (ev_var rfl) rfl) ev_c (rv_I ⟨by show (0 : Int) < 7; omega, by show (7 : Int) < 1073741824; omega⟩))) (ev_var rfl) (rv_I hmI)) fun H6 e6 => ?_
      rw [ej]
      exact q j H6 hj (eb5.trans (ExB.of e6)) ⟨_, _, _, h5.ex e6⟩
    · have h4 := h2.ex e4
      have hlt2 : i < (ns.length : Int) := by
        have := of_decide_eq_false hlt
        rw [List.length_map] at this
        omega
      have hi0 := hR.i0
      obtain ⟨c, hc⟩ : ∃ c, ns[i.toNat]? = some c := ⟨_, List.getElem?_eq_getElem (by omega)⟩
      have hat : atI (ns.map V.int) ((i + 1) - 1) = some (.int c) := by
        rw [show (i + 1) - 1 = ((i.toNat : Nat) : Int) by omega]
        exact atI_nat (by rw [List.getElem?_map, hc]; rfl)
      refine q_asg (ev_op (ev_row h4.at_ (ev_var rfl) rfl) (ev_op (ev_row h4.at_ (ev_var rfl) rfl) ev_c rv_I0) (rv_ixL h4.scr hat)) fun H5 e5 => ?_
      have h5 := h4.ex e5
      refine q_setL (j := 2) h5.at_ (ev_op (ev_int1 (ev_op (ev_op (ev_op (ev_row h5.at_ (ev_var rfl) rfl) ev_c (rv_I (mulx x h5.x0 h5.x1))) (ev_var rfl) rv_I0) ev_c rv_I0)) ev_c (rv_I (by show (0 : Int) < 2147483647; omega))) (ev_var rfl) ev_c (by simp) fun H6 e6 => ?_
      have hx0 : 0 ≤ (x * 48271 + c + 11) % 2147483647 := Int.emod_nonneg _ (by omega)
      have hx1 : (x * 48271 + c + 11) % 2147483647 < 2147483647 := Int.emod_lt_of_pos _ (by omega)
      have h6 : RowAt K (upd H6 r (.lst [.ref sc, .int (i + 1), .int ((x * 48271 + c + 11) % 2147483647), .int y])) r sc (i + 1) ((x * 48271 + c + 11) % 2147483647) y ns := (h5.ex e6).upd h5.i0 hx0 hx1
      have eb6 : ExB r H (upd H6 r (.lst [.ref sc, .int (i + 1), .int ((x * 48271 + c + 11) % 2147483647), .int y])) := (eb2.trans (ExB.of ((e4.trans e5).trans e6))).set
      show tSeq _ _ _ [some (.ref r), some (.int (m : Int)), none, some (.int c)] (upd H6 r (.lst [.ref sc, .int (i + 1), .int ((x * 48271 + c + 11) % 2147483647), .int y]))
      generalize upd H6 r (.lst [.ref sc, .int (i + 1), .int ((x * 48271 + c + 11) % 2147483647), .int y]) = H7 at h6 eb6 ⊢
      obtain ⟨j, hj, ej⟩ := fin c
      have last : ∀ H8, ExB r H H8 → RowOk K sc ns H8 r → tRet (tOp (L2.rI (fun _ j => 0 < j) fun i j => V.int (i % j)) (tCB (fun xs H Q => (∃ i, xs = [.int i] ∧ Q (.int i) H) ∨ ∃ k, xs = [.bl k] ∧ Q (.int (if k then 1 else 0)) H) (tCons (tVar 3) tNil)) (tVar 1)) { nx := fun _ H' => Q .non H', rt := Q } [some (.ref r), some (.int (m : Int)), none, some (.int c)] H8 := fun H8 e8 r8 => by
        refine s_ret (ev_op (ev_int1 (ev_var rfl)) (ev_var rfl) (rv_I hmI)) fun H9 e9 => ?_
        rw [ej]
        exact q j H9 hj (e8.trans (ExB.of e9)) (r8.ex e9)
      refine q_when (et_test (ev_op (ev_var rfl) (ev_op ev_c ev_c (rv_I ⟨by show (0 : Int) ≤ 18; omega, by show (18 : Int) ≤ 1000000; omega, by show (10 : Int).natAbs < 2 ^ 64; decide⟩)) rv_I0)) (fun _ H8 e8 => ?_) fun _ H8 e8 => last H8 (eb6.trans (ExB.of e8)) ⟨_, _, _, h6.ex e8⟩
      have h8 := h6.ex e8
      refine s_setL (j := 3) h8.at_ (ev_op (ev_var rfl) (ev_var rfl) (rv_I ⟨hmI, by show (m : Int) < 1073741824; omega⟩)) (ev_var rfl) ev_c (by simp) fun H9 e9 => ?_
      refine last _ ((eb6.trans (ExB.of (e8.trans e9))).set) ⟨_, _, _, (h8.ex e9).upd h8.i0 h8.x0 h8.x1⟩
end
end F1
set_option Elab.async false
set_option linter.all false
set_option maxRecDepth 100000
set_option maxHeartbeats 1000000
namespace F1
open PySem PySem.Spec PyProof.Rows L2 Evl
/-- the pairs of places below n -/
def prs (n : Nat) : List (Nat × Nat) := (List.range n).foldl (fun acc a => acc ++ (List.range' (a + 1) (n - (a + 1))).map fun b => (a, b)) []
theorem er_tuple {K : PySem.W.Frag} {σ : L2.St} {H : Hp} {te : TE} {α : Type} {R : Rl α} {bs : List α} (h : EvR te σ H (rL R) bs) (m : Mt R) :
    EvR (tCB (fun xs H Q => ∃ p ys, xs = [.ref p] ∧ ((SqL K H p ys ∧ ∀ l, H l = none → Q (.ref l) (upd H l (.tup ys))) ∨ (SqT K H p ys ∧ Q (.ref p) H))) (tCons te tNil)) σ H (rT R) bs := er_cb1 h fun x H1 e1 r Q q => by
  obtain ⟨p, us, rfl, hp, hu⟩ := r
  exact ⟨p, us, rfl, .inl ⟨sq_of hp, fun l hl => q _ _ (Ex.new hl) ⟨l, us, rfl, upd_same, Paired.mapP hu fun x y => m.mn _ _ _ _ (Ex.new hl)⟩⟩⟩
theorem pd_tp {α : Type} {R : Rl α} (m : Mt R) {H H' : Hp} (e : Tp H H') {us : List V} {bs : List α} (h : Paired (R H) us bs) : Paired (R H') us bs := Paired.mapP h fun x y => m _ _ _ _ e
section
variable {P : Program} {w : World} {K : PySem.W.Frag} {mg : Str → Option Value} {base : Heap} {f : Addr} {fd : FuncData} {k : Nat}
theorem sc33 : FnScope ["_law_many", "_law_found", "_law_one", "_law_other"] ["_law_many"] (defScope (top 33)) := ⟨rfl, rfl, rfl, by decide +kernel, rfl, by decide +kernel, by decide +kernel⟩
abbrev spPrs : Sp := sp1 rN (fun n => n ≤ 4) (rL rPr) prs
def prsTo (n i : Nat) : List (Nat × Nat) := (List.range i).foldl (fun acc a => acc ++ (List.range' (a + 1) (n - (a + 1))).map fun b => (a, b)) []
theorem prsTo_succ (n i : Nat) : prsTo n (i + 1) = prsTo n i ++ (List.range' (i + 1) (n - (i + 1))).map fun b => (i, b) := by
  unfold prsTo
  rw [List.range_succ, List.foldl_append]
  rfl
theorem prsTo_len (n : Nat) (h : n ≤ 4) : ∀ i, (prsTo n i).length ≤ 4 * i
  | 0 => by simp [prsTo]
  | i + 1 => by
    have := prsTo_len n h i
    rw [prsTo_succ, List.length_append, List.length_map, List.length_range']
    omega
theorem ok_prs (F : Fun K "_law_pairs" "_law_pairs" (top 33) f fd) (mr : mg "range" = none) : FnOk P w K mg base CX0 (k + 1) f fd ["_law_many"] spPrs := by
  refine F.ok sc33 (fun vs H Q E h => ?_) (fun cdv A outer s H vs Q E hr h => ?_)
  · obtain ⟨x, a, rfl, _⟩ := h
    rfl
  obtain ⟨x, n, rfl, hx, hn, q⟩ := h
  cases hx
  refine ⟨_, pss_cons (ps_set (i := 1) sc33.nd rfl (.inl rfl) (pe_lst pa_nil))
    (pss_cons (ps_for PassesOwn.never rfl (pi_range1 (by rfl) mr (pa_cons (pv 0) pa_nil)) (pg_name (i := 2) sc33.nd rfl (.inr rfl))
      (pss_one (ps_set (i := 1) sc33.nd rfl (.inl rfl) (pe_op op_cat (pv 1) (pe_lc (own := [("_law_other", 3)]) (g := gName 3) (tt := tYes) rfl sc33.nd (pi_range2 (by rfl) mr (pa_cons (pe_op op_add (pv 2) pe_int) (pa_cons (pv 0) pa_nil)))
        (blkOk_by (N := ["_law_many", "_law_found", "_law_one", "_law_other"]) (sc := defScope (top 33)) (by decide +kernel))
        (fun _ _ _ _ _ => pg_name (i := 3) sc33.nd rfl (.inl rfl)) (fun _ _ _ _ _ => pts_nil) (fun _ _ _ _ _ => pe_tup (pa_cons (pv 2) (pa_cons (pv 3) pa_nil))))))))
    (pss_one (ps_ret (pv 1)))), ?_⟩
  refine r_set (R := rL rPr) (a := []) er_lst0 fun v0 H1 e1 r1 => ?_
  refine r_forN (R := rN) (as := List.range n) (fun i σ' H' => ∃ v y2 y3, σ' = [some (.int (n : Int)), some v, y2, y3] ∧ rL rPr H' v (prsTo n i)) (ei_rng (ea_cons (ev_var rfl) ea_nil) (by omega)) tg_name (fun H2 e2 => ⟨v0, _, _, rfl, mn_L mn_pr _ _ _ _ e2 r1⟩)
    (fun H2 e2 i a x σ' H' e3 ha ra hP => ?_) (fun i σ' H' H'' e h => ?_) fun σ' H' e2 hP => ?_
  · obtain ⟨v, y2, y3, rfl, rv⟩ := hP
    have hai : a = i := by
      have := (List.getElem?_eq_some_iff.mp ha)
      obtain ⟨h1, h2⟩ := this
      simp at h2
      omega
    have hin : i < n := by
      have := (List.getElem?_eq_some_iff.mp ha).1
      simpa using this
    subst hai
    cases ra
    have h16 := prsTo_len n hn a
    refine r_set1 (R := rL rPr) (a := prsTo n a ++ ((List.range' (a + 1) (n - (a + 1))).filter fun _ => true).map fun b => (a, b)) (er_cat (er_var rfl rv (mn_L mn_pr)) (er_lc (R := rN) (S := rPr) (fun _ => true) (fun b => (a, b))
      (ei_rng2 (lo := a + 1) (n := n) (ea_cons (ev_op (ev_var (v := .int (a : Int)) rfl) ev_c (rv_I0 (g := fun i j => V.int (i + j)))) (ea_cons (ev_var rfl) ea_nil)) (by omega) (by omega)) mt_pr (by rw [List.length_range']; omega) tg_name
      fun b z H4 e4 hb rb => ⟨rfl, fun _ _ _ q => q _ (Ex.refl _), fun _ => er_pair (er_var (R := rN) (a := a) rfl rfl mn_S) (er_var rfl rb mn_S) mn_S mn_S⟩) mn_pr ?_) fun v2 H4 e4 r4 => ⟨e3.trans e4, v2, _, _, rfl, ?_⟩
    · rw [filt_true, List.length_map, List.length_range']
      omega
    · rw [prsTo_succ]
      rw [filt_true] at r4
      exact r4
  · obtain ⟨v, y2, y3, rfl, rv⟩ := h
    exact ⟨v, y2, y3, rfl, mn_L mn_pr _ _ _ _ e rv⟩
  · obtain ⟨v, y2, y3, rfl, rv⟩ := hP
    rw [List.length_range] at rv
    exact r_ret (er_var rfl rv (mn_L mn_pr)) fun v2 H3 e3 r3 => q v2 H3 ((e1.trans e2).trans e3) r3
/-! ### _law_pick -/
theorem sc35 : FnScope ["_law_row", "_law_things"] ["_law_row", "_law_things"] (defScope (top 35)) := ⟨rfl, rfl, rfl, by decide +kernel, rfl, by decide +kernel, by decide +kernel⟩
def spPick {α : Type} (K : PySem.W.Frag) (R : Rl α) : Sp := fun vs H Q _ => ∃ (r p s : Addr) (ns : List Int) (us : List V) (bs : List α), vs = [.ref r, .ref p] ∧ p ≠ r ∧ RowOk K s ns H r ∧ H p = some (.lst us) ∧ Paired (R H) us bs ∧ 1 ≤ bs.length ∧ bs.length ≤ 1000 ∧
  ∀ v b H2, ExB r H H2 → RowOk K s ns H2 r → b ∈ bs → R H2 v b → Q v H2
theorem ok_pick {α : Type} {R : Rl α} (m : Mt R) {g : Addr} {gd : FuncData} (F : Fun K "_law_pick" "_law_pick" (top 35) f fd) (T : Cal P w K mg base 1 "_law_taken" g gd ["_law_row", "_law_many"] (spTk K)) (ml : mg "len" = none) : FnOk P w K mg base CX0 (k + 2) f fd ["_law_row", "_law_things"] (spPick K R) := by
  refine F.ok sc35 (fun vs H Q E h => ?_) (fun cdv A outer s H vs Q E hr h => ?_)
  · obtain ⟨r, p, _, _, us, bs, rfl, _⟩ := h
    rfl
  obtain ⟨r, p, sc, ns, us, bs, rfl, hpr, hrow, hp, hu, h1, h2, q⟩ := h
  refine ⟨_, pss_one (ps_ret (pe_ix ix_list (pv 1) (pe_cal T (Nat.le_add_left 1 k) hr (pa_cons (pv 0) (pa_cons (pe_callB call_len_seq (by rfl) ml boot_len (pa_cons (pv 1) pa_nil)) pa_nil))) (fun _ _ => rfl))), ?_⟩
  have hul := hu.length
  refine ⟨_, rfl, _, rfl, _, rfl, p, us, rfl, .inl (sq_of hp), r, sc, ns, us.length, rfl, by omega, by omega, hrow, fun j H2 hj eb ro => ?_⟩
  obtain ⟨xs, hx⟩ := hrow.lst
  obtain ⟨x, hxj⟩ : ∃ x, us[j]? = some x := ⟨_, List.getElem?_eq_getElem hj⟩
  obtain ⟨b, hb, rb⟩ := pd_get hu hxj
  exact ⟨p, us, j, x, rfl, rfl, sq_of (eb p _ hpr hp), atI_nat hxj, q x b H2 eb ro (List.mem_of_getElem? hb) (m _ _ _ _ (eb.tp hx) rb)⟩
/-! ### _law_company -/
theorem sc34 : FnScope ["_law_row", "_law_most", "_law_many", "_law_ways", "_law_pairs_here", "_law_pair"] ["_law_row", "_law_most"] (defScope (top 34)) := ⟨rfl, rfl, rfl, by decide +kernel, rfl, by decide +kernel, by decide +kernel⟩
def spLCo (K : PySem.W.Frag) : Sp := fun vs H Q _ => ∃ (r s : Addr) (ns : List Int) (m : Nat), vs = [.ref r, .int (m : Int)] ∧ 1 ≤ m ∧ m ≤ 4 ∧ RowOk K s ns H r ∧ ∀ v n ps H2, ExB r H H2 → RowOk K s ns H2 r → 1 ≤ n → n ≤ 4 → List.Sublist ps (prs n) → rCo H2 v (n, ps) → Q v H2
theorem prs_len {n : Nat} (h : n ≤ 4) : (prs n).length ≤ 16 := by
  have h1 := prsTo_len n h n
  have : prs n = prsTo n n := rfl
  rw [this]
  omega
theorem ok_lco {g1 g2 : Addr} {gd1 gd2 : FuncData} (F : Fun K "_law_company" "_law_company" (top 34) f fd) (T : Cal P w K mg base 1 "_law_taken" g1 gd1 ["_law_row", "_law_many"] (spTk K)) (Pr : Cal P w K mg base 1 "_law_pairs" g2 gd2 ["_law_many"] spPrs) (mt : mg "tuple" = none) :
    FnOk P w K mg base CX0 (k + 2) f fd ["_law_row", "_law_most"] (spLCo K) := by
  refine F.ok sc34 (fun vs H Q E h => ?_) (fun cdv A outer s H vs Q E hr h => ?_)
  · obtain ⟨r, _, _, m, rfl, _⟩ := h
    rfl
  obtain ⟨r, sc, ns, m, rfl, hm1, hm4, hrow, q⟩ := h
  refine ⟨_, pss_cons (ps_asg (pe_tup (pa_cons (pe_op op_add pe_int (pe_cal T (Nat.le_add_left 1 k) hr (pa_cons (pv 0) (pa_cons (pv 1) pa_nil)))) (pa_cons (pe_ix ix_list (pe_lst (pa_cons pe_int (pa_cons pe_int (pa_cons pe_int pa_nil)))) (pe_cal T (Nat.le_add_left 1 k) hr (pa_cons (pv 0) (pa_cons pe_int pa_nil))) (fun _ _ => rfl)) pa_nil)))
      (pg_tup rfl (pgs_cons (pg_name (i := 2) sc34.nd rfl (.inl rfl)) (pgs_cons (pg_name (i := 3) sc34.nd rfl (.inr rfl)) pgs_nil))))
    (pss_cons (ps_setLc (i := 4) (own := [("_law_pair", 5)]) (g := gName 5) rfl sc34.nd rfl rfl (sw_true rfl rfl rfl (by decide +kernel)) (pi_list (pe_cal Pr (Nat.le_add_left 1 k) hr (pa_cons (pv 2) pa_nil)))
        (blkOk_by (N := ["_law_row", "_law_most", "_law_many", "_law_ways", "_law_pairs_here", "_law_pair"]) (sc := defScope (top 34)) (by decide +kernel))
        (fun _ _ _ _ _ => pg_name (i := 5) sc34.nd rfl (.inl rfl)) (fun _ _ _ _ _ => pts_one (pt_cmpR op_gt (pe_cal T (Nat.le_add_left 1 k) hr (pa_cons (pv 0) (pa_cons (pv 3) pa_nil))) pe_int (nomark _))) (fun _ _ _ _ _ => pv 5))
    (pss_cons (ps_if (pt_cmpR op_eq (pe_cal T (Nat.le_add_left 1 k) hr (pa_cons (pv 0) (pa_cons pe_int pa_nil))) pe_int (nomark _))
      (pss_one (ps_setLc (i := 4) (own := [("_law_pair", 5)]) (g := gName 5) rfl sc34.nd rfl rfl (sw_true rfl rfl rfl (by decide +kernel)) (pi_list (pv 4))
        (blkOk_by (N := ["_law_row", "_law_most", "_law_many", "_law_ways", "_law_pairs_here", "_law_pair"]) (sc := defScope (top 34)) (by decide +kernel))
        (fun _ _ _ _ _ => pg_name (i := 5) sc34.nd rfl (.inl rfl)) (fun _ _ _ _ _ => pts_one (pt_cmpR op_lt (pe_op op_sub (pe_ix (r := rIxT K) ix_tup (pv 5) pe_int (fun _ _ => rfl)) (pe_ix (r := rIxT K) ix_tup (pv 5) pe_int (fun _ _ => rfl))) pe_int (nomark _))) (fun _ _ _ _ _ => pv 5))) pss_nil)
    (pss_one (ps_ret (pe_tup (pa_cons (pv 2) (pa_cons (pe_callTy call_tuple_of (by rfl) mt (by decide +kernel) (pa_cons (pv 4) pa_nil)) pa_nil))))))), ?_⟩
  refine ⟨_, rfl, _, rfl, r, sc, ns, m, rfl, hm1, by omega, hrow, fun j1 H1 hj1 eb1 ro1 => ⟨1, (j1 : Int), rfl, rfl, by show 3 ≤ 16777216; omega, fun p hp => ?_⟩⟩
  have hpr : p ≠ r := fun z => by
    obtain ⟨xs, hx⟩ := ro1.lst
    rw [z, hx] at hp
    cases hp
  refine ⟨_, rfl, r, sc, ns, 3, rfl, by omega, by omega, ro1.ex (Ex.new hp), fun j2 H2 hj2 eb2 ro2 => ?_⟩
  obtain ⟨wv, hwv, hw1, hw2⟩ : ∃ wv : Nat, atI [V.int 2, .int 3, .int 5] ((j2 : Nat) : Int) = some (.int (wv : Int)) ∧ 1 ≤ wv ∧ wv ≤ 1000 := by
    match j2, hj2 with
    | 0, _ => exact ⟨2, rfl, by omega, by omega⟩
    | 1, _ => exact ⟨3, rfl, by omega, by omega⟩
    | 2, _ => exact ⟨5, rfl, by omega, by omega⟩
  refine ⟨p, _, _, _, rfl, rfl, sq_of (eb2 p _ hpr upd_same), hwv, by show 2 ≤ 16777216; omega, fun t ht => ⟨t, _, rfl, st_of upd_same, rfl, _, _, rfl, _, _, rfl, rfl, ?_⟩⟩
  have eb3 : ExB r H (upd H2 t (.tup [.int (1 + (j1 : Int)), .int (wv : Int)])) := ((eb1.trans (ExB.of (Ex.new hp))).trans eb2).trans (ExB.of (Ex.new ht))
  have ro3 := ro2.ex (Ex.new (o := .tup [.int (1 + (j1 : Int)), .int (wv : Int)]) ht)
  show tSeq _ _ _ [some (.ref r), some (.int (m : Int)), some (.int (1 + (j1 : Int))), some (.int (wv : Int)), none, none] (upd H2 t (.tup [.int (1 + (j1 : Int)), .int (wv : Int)]))
  generalize upd H2 t (.tup [.int (1 + (j1 : Int)), .int (wv : Int)]) = H3 at eb3 ro3 ⊢
  have hn : (1 : Int) + (j1 : Int) = ((1 + j1 : Nat) : Int) := by omega
  rw [hn]
  have hn4 : 1 + j1 ≤ 4 := by omega
  have hn1 : 1 ≤ 1 + j1 := by omega
  generalize 1 + j1 = n at hn4 hn1 ⊢
  -- the pairs that are drawn
  refine (er_c1 (R := rN) (G := fun n => n ≤ 4) (S := rL rPr) (f := prs) (E := E0) (er_var (σ := [some (.ref r), some (.int (m : Int)), some (.int (n : Int)), some (.int (wv : Int)), none, none]) (a := n) rfl rfl mn_S) hn4) H3 (Ex.refl _) _ fun v H4 e4 rv => ?_
  obtain ⟨p2, us, rfl, hp2, hu⟩ := rv
  have ro4 := ro3.ex e4
  have hp2r : p2 ≠ r := fun z => by
    obtain ⟨_, _, _, h⟩ := ro4
    have h1 := h.at_
    rw [← z, hp2] at h1
    injection h1 with h1
    injection h1 with h1
    rw [h1] at hu
    generalize prs n = L at hu
    cases hu with
    | cons r1 r2 =>
      cases r2 with
      | cons r3 r4 =>
        obtain ⟨_, _, _, r5, _⟩ := r3
        cases r5
  refine ⟨p2, rfl, ⟨us, sq_of hp2⟩, fun D hD => lc_it (walk_list (K := K) (a := p2) (xs := us)) (fun i H' => ExB r H4 H' ∧ RowOk K sc ns H' r ∧ ∃ acc qs, H' D = some (.lst acc) ∧ Paired (rPr H') acc qs ∧ List.Sublist qs ((prs n).take i) ∧ qs.length ≤ i) ⟨ExB.of (Ex.new hD), ro4.ex (Ex.new hD), [], [], upd_same, .nil, List.Sublist.slnil, Nat.le_refl _⟩
    (fun i H' _ pp => sq_of (pp.1 _ _ hp2r hp2)) (fun i x H' H'' hi pp yy => ?_) fun H' pp => ?_⟩
  · obtain ⟨rfl, hx⟩ := yy
    obtain ⟨b1, b2, acc, qs, b3, b4, b5, b6⟩ := pp
    obtain ⟨xs0, hx0⟩ := ro4.lst
    have hDr : D ≠ r := fun z => by
      rw [z, hx0] at hD
      cases hD
    obtain ⟨pr, hpr2, rpr⟩ := pd_get hu hx
    have rpr2 : rPr H'' x pr := mt_pr _ _ _ _ (b1.tp hx0) rpr
    refine ⟨rfl, _, rfl, _, rfl, r, sc, ns, wv, rfl, hw1, hw2, b2, fun j H5 hj eb5 ro5 => ⟨_, _, rfl, rfl, _, rfl, ?_⟩⟩
    obtain ⟨xs1, hx1⟩ := b2.lst
    have tp5 := eb5.tp hx1
    have hil : i < us.length := hi
    have hul := hu.length
    have h16 := prs_len hn4
    refine ite2 (fun _ => ⟨x, rfl, acc, eb5 _ _ hDr b3, sz_lt (by rw [b4.length]; omega), ?_, ?_, acc ++ [x], qs ++ [pr], upd_same, ?_, ?_, ?_⟩) fun _ => ⟨b1.trans eb5, ro5, acc, qs, eb5 _ _ hDr b3, pd_tp mt_pr tp5 b4, ?_, by omega⟩
    · exact fun a o ha h4 => by
        have hne : a ≠ D := fun z => by rw [z, hD] at h4; cases h4
        rw [upd_ne hne]
        exact eb5 _ _ ha (b1 _ _ ha h4)
    · exact RowOk.mut ro4 hD ro5
    · have tpD := tp_lst (o := .lst (acc ++ [x])) (eb5 _ _ hDr b3)
      exact pd_append (pd_tp mt_pr (tp5.trans tpD) b4) (.cons (mt_pr _ _ _ _ (tp5.trans tpD) rpr2) .nil)
    · rw [List.take_add_one, hpr2]
      exact List.Sublist.append b5 (List.Sublist.refl _)
    · rw [List.length_append, List.length_singleton]
      omega
    · exact b5.trans (List.take_sublist_take_left (by omega))
  · obtain ⟨b1, b2, acc, qs, b3, b4, b5, b6⟩ := pp
    have hul := hu.length
    rw [hul, List.take_length] at b5
    have eb6 : ExB r H H' := (eb3.trans (ExB.of e4)).trans b1
    show tSeq _ _ _ [some (.ref r), some (.int (m : Int)), some (.int (n : Int)), some (.int (wv : Int)), some (.ref D), none] H'
    have hq16 : qs.length ≤ 16 := Nat.le_trans b5.length_le (prs_len hn4)
    have fin : ∀ (y5 : Option V) (pD : V) (rs : List (Nat × Nat)) H6, ExB r H H6 → RowOk K sc ns H6 r → rL rPr H6 pD rs → List.Sublist rs (prs n) →
        tRet (tTup (tCons (tVar 2) (tCons (tCB (fun xs H Q => ∃ p ys, xs = [.ref p] ∧ ((SqL K H p ys ∧ ∀ l, H l = none → Q (.ref l) (upd H l (.tup ys))) ∨ (SqT K H p ys ∧ Q (.ref p) H))) (tCons (tVar 4) tNil)) tNil))) { nx := fun _ H' => Q .non H', rt := Q } [some (.ref r), some (.int (m : Int)), some (.int (n : Int)), some (.int (wv : Int)), some pD, y5] H6 := fun y5 pD rs H6 e6 r6 rl6 sub =>
      r_ret (er_pair (er_var (R := rN) (a := n) rfl rfl mn_S) (er_tuple (er_var rfl rl6 (mn_L mn_pr)) mt_pr) mn_S (mn_T mn_pr)) fun v H7 e7 r7 => q v n rs H7 (e6.trans (ExB.of e7)) (r6.ex e7) hn1 hn4 sub r7
    refine ⟨_, rfl, r, sc, ns, 4, rfl, by omega, by omega, b2, fun j H6 hj eb7 ro6 => ⟨rfl, _, rfl, ?_⟩⟩
    obtain ⟨xs6, hx6⟩ := b2.lst
    obtain ⟨xs0, hx0⟩ := ro4.lst
    have hDr : D ≠ r := fun z => by
      rw [z, hx0] at hD
      cases hD
    have rl6 : rL rPr H6 (.ref D) qs := ⟨D, acc, rfl, eb7 _ _ hDr b3, pd_tp mt_pr (eb7.tp hx6) b4⟩
    refine ite2 (fun _ => ?_) fun _ => fin _ _ qs H6 (eb6.trans eb7) ro6 rl6 b5
    refine r_set1 (R := rL rPr) (er_lc (R := rPr) (as := qs) (fun p => decide ((p.2 : Int) - (p.1 : Int) < 2)) (fun p => p) (ei_list (er_var rfl rl6 (mn_L mn_pr)) mn_pr) mt_pr (by omega) tg_name fun a z H7 e7 ha ra => ⟨rfl, ?_, fun _ => er_var rfl ra mn_pr⟩) fun v H7 e7 rv => ?_
    · exact et_test (ev_op (ev_op (ev_vr (er_snd (er_var rfl ra mn_pr) mn_S fun _ _ => ev_c) rfl) (ev_vr (er_fst (er_var rfl ra mn_pr) mn_S fun _ _ => ev_c) rfl) rv_I0) ev_c rv_I0)
    · rw [List.map_id'] at rv
      exact fin _ _ _ H7 ((eb6.trans eb7).trans (ExB.of e7)) (ro6.ex e7) rv (List.filter_sublist.trans b5)
end
end F1
set_option Elab.async false
set_option linter.all false
set_option maxRecDepth 100000
set_option maxHeartbeats 1000000
namespace F1
open PySem PySem.Spec PyProof.Rows L2 Evl
/-! ### _law_firsts -/
def firstsF (w : List Nat) : List Nat := ((List.range w.length).filter fun i => !decide (w.getD i 0 ∈ w.take i)).map fun i => w.getD i 0
theorem cut_take (w : List Nat) (i : Nat) : cutS (tx w) none (some (i : Int)) = tx (w.take i) := by
  unfold cutS
  rw [HT.sIx_nat, HT.sIx_none]
  show (⟨((w.toArray.toList.drop 0).take (min i (tx w).length - 0)).toArray⟩ : Str) = tx (w.take i)
  rw [len_tx, List.toList_toArray, List.drop_zero, Nat.sub_zero]
  congr 2
  rw [← List.take_take, List.take_length]
theorem snoc_ind {α : Type} {P : List α → Prop} (h0 : P []) (hs : ∀ l a, P l → P (l ++ [a])) (l : List α) : P l := by
  have key : ∀ n (l : List α), l.length = n → P l := by
    intro n
    induction n with
    | zero =>
      intro l hl
      rw [List.length_eq_zero_iff.mp hl]
      exact h0
    | succ n ih =>
      intro l hl
      rcases List.eq_nil_or_concat l with rfl | ⟨r, a, rfl⟩
      · exact h0
      · rw [List.concat_eq_append] at hl ⊢
        exact hs r a (ih r (by simp at hl; exact hl))
  exact key _ l rfl
theorem firsts_snoc (l : List Nat) (c : Nat) : firstsF (l ++ [c]) = if c ∈ l then firstsF l else firstsF l ++ [c] := by
  have e1 : ∀ i, i < l.length → (l ++ [c]).getD i 0 = l.getD i 0 := fun i hi => by
    rw [List.getD_eq_getElem?_getD, List.getD_eq_getElem?_getD, List.getElem?_append_left hi]
  have e2 : ∀ i, i ≤ l.length → (l ++ [c]).take i = l.take i := fun i hi => List.take_append_of_le_length hi
  have e3 : (l ++ [c]).getD l.length 0 = c := by
    rw [List.getD_eq_getElem?_getD, List.getElem?_append_right (Nat.le_refl _)]
    simp
  unfold firstsF
  rw [List.length_append, List.length_singleton, List.range_succ, List.filter_append, List.map_append]
  have h1 : (List.range l.length).filter (fun i => !decide ((l ++ [c]).getD i 0 ∈ (l ++ [c]).take i)) = (List.range l.length).filter fun i => !decide (l.getD i 0 ∈ l.take i) := by
    refine List.filter_congr fun i hi => ?_
    have hi := List.mem_range.mp hi
    rw [e1 i hi, e2 i (by omega)]
  rw [h1]
  have h2 : ((List.range l.length).filter fun i => !decide (l.getD i 0 ∈ l.take i)).map (fun i => (l ++ [c]).getD i 0) = ((List.range l.length).filter fun i => !decide (l.getD i 0 ∈ l.take i)).map fun i => l.getD i 0 := by
    refine List.map_congr_left fun i hi => ?_
    exact e1 i (List.mem_range.mp (List.mem_filter.mp hi).1)
  rw [h2]
  have e4 : (l ++ [c]).take l.length = l := by rw [e2 _ (Nat.le_refl _), List.take_length]
  rw [List.filter_cons, e3, e4]
  by_cases hc : c ∈ l
  · rw [if_pos hc, decide_eq_true hc]
    simp
  · rw [if_neg hc, decide_eq_false hc]
    simp
theorem firsts_mem (l : List Nat) : ∀ x, x ∈ firstsF l ↔ x ∈ l := by
  refine snoc_ind (P := fun l => ∀ x, x ∈ firstsF l ↔ x ∈ l) (fun x => by simp [firstsF]) (fun l c ih x => ?_) l
  rw [firsts_snoc]
  by_cases hc : c ∈ l
  · rw [if_pos hc, ih, List.mem_append, List.mem_singleton]
    exact ⟨.inl, fun h => h.elim id fun e => e ▸ hc⟩
  · rw [if_neg hc, List.mem_append, List.mem_append, ih]
theorem firsts_nd (l : List Nat) : (firstsF l).Nodup := by
  refine snoc_ind (P := fun l => (firstsF l).Nodup) (by simp [firstsF]) (fun l c ih => ?_) l
  rw [firsts_snoc]
  by_cases hc : c ∈ l
  · rw [if_pos hc]
    exact ih
  · rw [if_neg hc, List.nodup_append]
    exact ⟨ih, by simp, fun a ha b hb e => hc (by rw [List.mem_singleton] at hb; rw [← hb, ← e]; exact (firsts_mem l a).mp ha)⟩
theorem firsts_len (l : List Nat) : (firstsF l).length ≤ l.length := by
  unfold firstsF
  rw [List.length_map]
  have := List.length_filter_le (fun i => !decide (l.getD i 0 ∈ l.take i)) (List.range l.length)
  rw [List.length_range] at this
  exact this
section
variable {K : PySem.W.Frag} {σ : L2.St} {H : Hp} {te ta tb tc : TE}
theorem er_take {l : List Nat} {i : Nat} (h : EvR te σ H rX l) (hi : EvR ta σ H rN i) (hl : l.length ≤ 100000) : EvR (tSl rSlS te tNoPart (tPart ta)) σ H rX (l.take i) := fun H1 e Q q =>
  h H1 e _ fun v H2 e2 r => hi H2 (e.trans e2) _ fun v2 H3 e3 r2 => by
    cases r
    cases r2
    exact ⟨(i : Int), rfl, tx l, rfl, sz_of (by rw [len_tx]; exact hl), by
      rw [cut_take]
      exact q _ H3 (e2.trans e3) rfl⟩
end
section
variable {P : Program} {w : World} {K : PySem.W.Frag} {mg : Str → Option Value} {base : Heap} {f : Addr} {fd : FuncData} {k : Nat}
theorem sc36 : FnScope ["_law_word_here", "_law_at"] ["_law_word_here"] (defScope (top 36)) := ⟨rfl, rfl, rfl, by decide +kernel, rfl, by decide +kernel, by decide +kernel⟩
abbrev spFst : Sp := sp1 rX (fun l => l.length ≤ 200) rX firstsF
theorem getD_of {l : List Nat} {i : Nat} (h : i < l.length) : l[i]? = some (l.getD i 0) := by
  rw [List.getD_eq_getElem?_getD, List.getElem?_eq_getElem h]
  rfl
theorem ok_fst (F : Fun K "_law_firsts" "_law_firsts" (top 36) f fd) (ml : mg "len" = none) (mr : mg "range" = none) : FnOk P w K mg base CX0 (k + 1) f fd ["_law_word_here"] spFst := by
  refine F.ok sc36 (fun vs H Q E h => ?_) (fun cdv A outer s H vs Q E hr h => ?_)
  · obtain ⟨x, a, rfl, _⟩ := h
    rfl
  obtain ⟨x, l, rfl, hx, hl, q⟩ := h
  cases hx
  refine ⟨_, pss_one (ps_ret (pe_join pe_str (pe_lc (own := [("_law_at", 1)]) (g := gName 1) rfl sc36.nd (pi_range1 (by rfl) mr (pa_cons (pe_callB call_len_str (by rfl) ml boot_len (pa_cons (pv 0) pa_nil)) pa_nil))
      (blkOk_by (N := ["_law_word_here", "_law_at"]) (sc := defScope (top 36)) (by decide +kernel)) (fun _ _ _ _ _ => pg_name (i := 1) sc36.nd rfl (.inl rfl))
      (fun _ _ _ _ _ => pts_one (pt_cmpR op_notInS (pe_ix ix_str (pv 0) (pv 1) (fun _ _ => rfl)) (pe_slice sl_str (pv 0) po_none (po_some (pv 1))) (by rfl)))
      (fun _ _ _ _ _ => pe_ix ix_str (pv 0) (pv 1) (fun _ _ => rfl))))), ?_⟩
  refine r_ret (er_join ev_c (l := firstsF l) (er_lc (R := rN) (as := List.range l.length) (S := rC) (fun i => !decide (l.getD i 0 ∈ l.take i)) (fun i => l.getD i 0) (ei_rng (ea_cons (ev_lenX (by omega) (ev_var rfl)) ea_nil) (by omega)) mt_S (by rw [List.length_range]; omega) tg_name
    fun a z H4 e4 ha ra => ?_) (by have := firsts_len l; omega)) fun v H1 e1 r1 => q v H1 e1 r1
  have hal := List.mem_range.mp ha
  have hg := getD_of hal
  cases ra
  exact ⟨rfl, et_test (ev_ni (er_ixX (er_var (a := l) rfl rfl mn_S) (er_var (a := a) rfl rfl mn_S) (by omega) hg) (er_take (er_var (a := l) rfl rfl mn_S) (er_var (a := a) rfl rfl mn_S) (by omega))), fun _ => er_ixX (er_var (a := l) rfl rfl mn_S) (er_var (a := a) rfl rfl mn_S) (by omega) hg⟩
/-! ### _law_friend -/
theorem hu65 {k : Nat} {A : Around} (hr : Room k A) : A.units + 65 < cLine := by
  have := hr.un
  omega
def friendF (ps : List (Nat × Nat)) (a b : Nat) : Bool := decide ((min a b - 97, max a b - 97) ∈ ps)
theorem occ7 : ∀ i : Nat, i < 7 → Builtin.Str.occurrences ("abcdefg" : Str) ⟨#[97 + i]⟩ 0 ("abcdefg" : Str).length 1 = [i]
  | 0, _ => by decide +kernel
  | 1, _ => by decide +kernel
  | 2, _ => by decide +kernel
  | 3, _ => by decide +kernel
  | 4, _ => by decide +kernel
  | 5, _ => by decide +kernel
  | 6, _ => by decide +kernel
  | n + 7, h => by omega
theorem lt_sign {a b : Nat} : R2.ltS ⟨#[a]⟩ ⟨#[b]⟩ ↔ a < b := by
  show ([a] : List Nat) < [b] ↔ a < b
  constructor
  · intro h
    cases h with
    | rel h => exact h
    | cons h => cases h
  · exact fun h => List.Lex.rel h
theorem er_min2 {σ : L2.St} {H : Hp} {ta tb : TE} {a b : Nat} (h1 : EvR ta σ H rC a) (h2 : EvR tb σ H rC b) : EvR (tCB (fun xs H Q => ∃ x y : Str, xs = [.str x, .str y] ∧ Q (.str (if R2.ltS y x then y else x)) H) (tCons ta (tCons tb tNil))) σ H rC (min a b) := er_cb2 h1 h2 mn_S fun x y H1 e r1 r2 Q q => by
  cases r1
  cases r2
  refine ⟨_, _, rfl, q _ H1 (Ex.refl _) ?_⟩
  show V.str _ = V.str _
  congr 1
  by_cases h : b < a
  · rw [if_pos (lt_sign.mpr h), Nat.min_eq_right (by omega)]
  · rw [if_neg (fun z => h (lt_sign.mp z)), Nat.min_eq_left (by omega)]
theorem er_max2 {σ : L2.St} {H : Hp} {ta tb : TE} {a b : Nat} (h1 : EvR ta σ H rC a) (h2 : EvR tb σ H rC b) : EvR (tCB (fun xs H Q => ∃ x y : Str, xs = [.str x, .str y] ∧ Q (.str (if R2.ltS x y then y else x)) H) (tCons ta (tCons tb tNil))) σ H rC (max a b) := er_cb2 h1 h2 mn_S fun x y H1 e r1 r2 Q q => by
  cases r1
  cases r2
  refine ⟨_, _, rfl, q _ H1 (Ex.refl _) ?_⟩
  show V.str _ = V.str _
  congr 1
  by_cases h : a < b
  · rw [if_pos (lt_sign.mpr h), Nat.max_eq_right (by omega)]
  · rw [if_neg (fun z => h (lt_sign.mp z)), Nat.max_eq_left (by omega)]
theorem er_index {σ : L2.St} {H : Hp} {ta tb : TE} {c : Nat} (h1 : Ev ta σ H (.str ("abcdefg" : Str))) (h2 : EvR tb σ H rC c) (hc : 97 ≤ c ∧ c ≤ 103) :
    EvR (tM1 (fun x xs H Q => ∃ a b i rest, x = .str a ∧ xs = [.str b] ∧ Builtin.Str.occurrences a b 0 a.length 1 = i :: rest ∧ Q (.int (i : Nat)) H) ta tb) σ H rN (c - 97) := fun H1 e Q q => h1 H1 e _ fun H2 e2 => ⟨⟨_, rfl⟩, h2 H2 (e.trans e2) _ fun v H3 e3 r => by
  cases r
  have ho := occ7 (c - 97) (by omega)
  rw [show 97 + (c - 97) = c by omega] at ho
  exact ⟨_, _, c - 97, [], rfl, rfl, ho, q _ H3 (e2.trans e3) rfl⟩⟩
theorem eqv_pr (p q : Nat × Nat) : PyData.eqv (prD2 p) (prD2 q) = decide (p = q) := by
  obtain ⟨a, b⟩ := p
  obtain ⟨c, d⟩ := q
  have e : PyData.eqv (prD2 (a, b)) (prD2 (c, d)) = (((a : Int) == (c : Int)) && (((b : Int) == (d : Int)) && true)) := by simp only [prD2, PyData.eqv, PyData.eqvAll]
  rw [e, Bool.and_true]
  by_cases h : (a, b) = (c, d)
  · rw [decide_eq_true h]
    cases h
    simp
  · rw [decide_eq_false h]
    have h2 : ¬ (a = c ∧ b = d) := fun z => h (by rw [z.1, z.2])
    by_cases h1 : a = c
    · have : ((b : Int) == (d : Int)) = false := beq_eq_false_iff_ne.mpr (by omega)
      rw [this, Bool.and_false]
    · have : ((a : Int) == (c : Int)) = false := beq_eq_false_iff_ne.mpr (by omega)
      rw [this, Bool.false_and]
theorem any_pr (ps : List (Nat × Nat)) (q : Nat × Nat) : ((ps.map prD2).any fun z => PyData.eqv z (prD2 q)) = decide (q ∈ ps) := by
  rw [List.any_map]
  by_cases h : q ∈ ps
  · rw [decide_eq_true h]
    exact List.any_eq_true.mpr ⟨q, h, by show PyData.eqv (prD2 q) (prD2 q) = true; rw [eqv_pr]; exact decide_eq_true rfl⟩
  · rw [decide_eq_false h]
    refine List.any_eq_false.mpr fun x hx z => ?_
    have z2 : PyData.eqv (prD2 x) (prD2 q) = true := z
    rw [eqv_pr] at z2
    have := of_decide_eq_true z2
    exact h (this ▸ hx)
theorem sc37 : FnScope ["_law_company_here", "_law_one", "_law_other", "_law_signs"] ["_law_company_here", "_law_one", "_law_other"] (defScope (top 37)) := ⟨rfl, rfl, rfl, by decide +kernel, rfl, by decide +kernel, by decide +kernel⟩
abbrev spFri : Sp := sp3 rCo rC rC (fun c a b => c.2.length ≤ 6 ∧ (97 ≤ a ∧ a ≤ 103) ∧ 97 ≤ b ∧ b ≤ 103) rBl fun c a b => friendF c.2 a b
theorem ok_fri (F : Fun K "_law_friend" "_law_friend" (top 37) f fd) (mn : mg "min" = none) (mx : mg "max" = none) : FnOk P w K mg base CX0 (k + 1) f fd ["_law_company_here", "_law_one", "_law_other"] spFri := by
  refine F.ok sc37 (fun vs H Q E h => ?_) (fun cdv A outer s H vs Q E hr h => ?_)
  · obtain ⟨x, y, z, a, b, c, rfl, _⟩ := h
    rfl
  obtain ⟨x, y, z, ⟨n, ps⟩, a, b, rfl, hx, hy, hz, ⟨hC, ha, hb⟩, q⟩ := h
  refine ⟨_, pss_cons (ps_set (i := 3) sc37.nd rfl (.inl rfl) pe_str) (pss_one (ps_ret (pe_cmpR (R2.op_inTD (hu65 hr)) (pe_tup (pa_cons (pe_m1 PySem.F.slot_str_index PySem.F.type_str_index mt_sindex (pv 3) (pe_callB (R2.call_minSS rfl) (by rfl) mn boot_min (pa_cons (pv 1) (pa_cons (pv 2) pa_nil))))
      (pa_cons (pe_m1 PySem.F.slot_str_index PySem.F.type_str_index mt_sindex (pv 3) (pe_callB (R2.call_maxSS rfl) (by rfl) mx boot_max (pa_cons (pv 1) (pa_cons (pv 2) pa_nil)))) pa_nil))) (pe_ix ix_tup (pv 0) pe_int (fun _ _ => rfl)) (by rfl)))), ?_⟩
  refine q_asg ev_c fun H1 e1 => ?_
  have hps : EvR (tOp (rIxT K) (tVar 0) (tC (.int 1))) [some x, some y, some z, some (.str ("abcdefg" : Str))] H1 (rT rPr) ps := er_snd (er_var rfl (mn_co _ _ _ _ e1 hx) mn_co) (mn_T mn_pr) fun _ _ => ev_c
  refine r_ret (R := rBl) (a := friendF ps a b) (er_op (R := rPr) (S := rT rPr) (a := (min a b - 97, max a b - 97)) (b := ps) (er_pair (er_index (ev_var rfl) (er_min2 (er_var rfl hy mn_S) (er_var rfl hz mn_S)) (by omega)) (er_index (ev_var rfl) (er_max2 (er_var rfl hy mn_S) (er_var rfl hz mn_S)) (by omega)) mn_S mn_S) hps mn_pr fun u v H2 e2 ru rv Q q => ?_) fun v H3 e3 r3 => q v H3 (e1.trans e3) r3
  have hd := dp_pr (K := K) ru
  obtain ⟨p, us, rfl, hp, hu⟩ := rv
  refine ⟨prD2 (min a b - 97, max a b - 97), ps.map prD2, hd, .tup (st_of hp) (dpAll_of (fun v b h => dp_pr h) hu), ?_, shaped_tup (lay_all prD2_lay ps) (by have := depth_all prD2_depth ps; omega), ?_⟩
  · show ((prD2 (min a b - 97, max a b - 97)).canLay0 && decide ((prD2 (min a b - 97, max a b - 97)).depth ≤ 64)) = true
    rw [Bool.and_eq_true]
    have := prD2_depth (min a b - 97, max a b - 97)
    exact ⟨prD2_lay _, decide_eq_true (by omega)⟩
  · rw [any_pr]
    exact q _ H2 (Ex.refl _) rfl
end
end F1
set_option Elab.async false
set_option linter.all false
set_option maxRecDepth 100000
set_option maxHeartbeats 1000000
namespace F1
open PySem PySem.Spec PyProof.Rows L2 Evl R5
/-! ### _law_kind -/
def freeF (ps : List (Nat × Nat)) (r : List Nat) : List Nat := ((List.range r.length).filter fun i => decide (((r.take i).filter fun s => friendF ps s (r.getD i 0)) = [])).map fun i => r.getD i 0
def minL : List Nat → Nat
  | [] => 0
  | a :: r => r.foldl min a
def kStep (ps : List (Nat × Nat)) (st : List Nat × List Nat) : List Nat × List Nat := (st.1 ++ [minL (freeF ps st.2)], st.2.filter fun x => x != minL (freeF ps st.2))
def kSt (ps : List (Nat × Nat)) (r0 : List Nat) : Nat → List Nat × List Nat
  | 0 => ([], r0)
  | i + 1 => kStep ps (kSt ps r0 i)
def kindF (ps : List (Nat × Nat)) (w : List Nat) : List Nat := (kSt ps (firstsF w) (firstsF w).length).1
theorem foldl_min_le : ∀ (r : List Nat) (a : Nat), r.foldl min a ≤ a ∧ ∀ x ∈ r, r.foldl min a ≤ x
  | [], a => ⟨Nat.le_refl _, fun x hx => nomatch hx⟩
  | b :: r, a => by
    obtain ⟨h1, h2⟩ := foldl_min_le r (min a b)
    rw [List.foldl_cons]
    refine ⟨by omega, fun x hx => ?_⟩
    rcases List.mem_cons.mp hx with rfl | hx
    · omega
    · exact h2 x hx
theorem foldl_min_mem : ∀ (r : List Nat) (a : Nat), r.foldl min a ∈ a :: r
  | [], a => by simp
  | b :: r, a => by
    have h := foldl_min_mem r (min a b)
    rw [List.foldl_cons]
    rcases List.mem_cons.mp h with h | h
    · rw [h]
      by_cases hab : a ≤ b
      · rw [Nat.min_eq_left hab]
        simp
      · rw [Nat.min_eq_right (by omega)]
        simp
    · simp [h]
theorem minL_mem {l : List Nat} (h : l ≠ []) : minL l ∈ l := by
  cases l with
  | nil => exact absurd rfl h
  | cons a r => exact foldl_min_mem r a
theorem minL_le {l : List Nat} : ∀ x ∈ l, minL l ≤ x := by
  cases l with
  | nil => exact fun x hx => nomatch hx
  | cons a r =>
    intro x hx
    rcases List.mem_cons.mp hx with rfl | hx
    · exact (foldl_min_le r x).1
    · exact (foldl_min_le r a).2 x hx
theorem arg_least {l : List Nat} : ∀ k, k < l.length → ∀ j, j ≤ k → l.getD (argBest (fun i j => decide (R2.ltS (R2.stAt (l.map fun c => (⟨#[c]⟩ : Str)) i) (R2.stAt (l.map fun c => (⟨#[c]⟩ : Str)) j))) k) 0 ≤ l.getD j 0 := by
  have hst : ∀ i, i < l.length → R2.stAt (l.map fun c => (⟨#[c]⟩ : Str)) i = ⟨#[l.getD i 0]⟩ := fun i hi => by
    show (l.map fun c => (⟨#[c]⟩ : Str)).getD i Str.empty = _
    rw [List.getD_eq_getElem?_getD, List.getElem?_map, getD_of hi]
    rfl
  intro k
  induction k with
  | zero =>
    intro _ j hj
    have : j = 0 := by omega
    subst this
    exact Nat.le_refl _
  | succ k ih =>
    intro hk j hj
    have hb := R2.argBest_le (fun i j => decide (R2.ltS (R2.stAt (l.map fun c => (⟨#[c]⟩ : Str)) i) (R2.stAt (l.map fun c => (⟨#[c]⟩ : Str)) j))) k
    have ih := ih (by omega)
    show l.getD (if (decide (R2.ltS (R2.stAt (l.map fun c => (⟨#[c]⟩ : Str)) (k + 1)) (R2.stAt (l.map fun c => (⟨#[c]⟩ : Str)) (argBest (fun i j => decide (R2.ltS (R2.stAt (l.map fun c => (⟨#[c]⟩ : Str)) i) (R2.stAt (l.map fun c => (⟨#[c]⟩ : Str)) j))) k)))) = true then k + 1 else argBest _ k) 0 ≤ _
    generalize argBest (fun i j => decide (R2.ltS (R2.stAt (l.map fun c => (⟨#[c]⟩ : Str)) i) (R2.stAt (l.map fun c => (⟨#[c]⟩ : Str)) j))) k = b at hb ih ⊢
    rw [hst (k + 1) hk, hst b (by omega)]
    by_cases hlt : l.getD (k + 1) 0 < l.getD b 0
    · rw [if_pos (decide_eq_true (lt_sign.mpr hlt))]
      rcases Nat.lt_or_ge j (k + 1) with h | h
      · have := ih j (by omega)
        omega
      · have : j = k + 1 := by omega
        subst this
        exact Nat.le_refl _
    · rw [if_neg (fun z => hlt (lt_sign.mp (of_decide_eq_true z)))]
      rcases Nat.lt_or_ge j (k + 1) with h | h
      · exact ih j (by omega)
      · have : j = k + 1 := by omega
        subst this
        omega
/-- min of a list of signs -/
theorem best_min {l : List Nat} (h : l ≠ []) : R2.stAt (l.map fun c => (⟨#[c]⟩ : Str)) (R2.bestS (l.map fun c => (⟨#[c]⟩ : Str))) = ⟨#[minL l]⟩ := by
  have hl : 0 < l.length := List.length_pos_iff.mpr h
  have hb := R2.argBest_le (fun i j => decide (R2.ltS (R2.stAt (l.map fun c => (⟨#[c]⟩ : Str)) i) (R2.stAt (l.map fun c => (⟨#[c]⟩ : Str)) j))) ((l.map fun c => (⟨#[c]⟩ : Str)).length - 1)
  rw [List.length_map] at hb
  have hle := arg_least (l := l) (l.length - 1) (by omega)
  have e1 : R2.bestS (l.map fun c => (⟨#[c]⟩ : Str)) = argBest (fun i j => decide (R2.ltS (R2.stAt (l.map fun c => (⟨#[c]⟩ : Str)) i) (R2.stAt (l.map fun c => (⟨#[c]⟩ : Str)) j))) (l.length - 1) := by
    show argBest _ ((l.map fun c => (⟨#[c]⟩ : Str)).length - 1) = _
    rw [List.length_map]
  rw [e1]
  generalize argBest (fun i j => decide (R2.ltS (R2.stAt (l.map fun c => (⟨#[c]⟩ : Str)) i) (R2.stAt (l.map fun c => (⟨#[c]⟩ : Str)) j))) (l.length - 1) = b at hb hle ⊢
  have hbl : b < l.length := by omega
  show (l.map fun c => (⟨#[c]⟩ : Str)).getD b Str.empty = _
  rw [List.getD_eq_getElem?_getD, List.getElem?_map, getD_of hbl]
  show (⟨#[l.getD b 0]⟩ : Str) = _
  congr 2
  refine congrArg (fun z => [z]) ?_
  have hmem : l.getD b 0 ∈ l := List.mem_of_getElem? (getD_of hbl)
  have h1 := minL_le (l := l) _ hmem
  obtain ⟨j, hj, hjm⟩ := List.getElem_of_mem (minL_mem h)
  have h2 := hle j (by omega)
  have h3 : l.getD j 0 = minL l := by
    rw [List.getD_eq_getElem?_getD, List.getElem?_eq_getElem hj, hjm]
    rfl
  omega
theorem free_sub {ps : List (Nat × Nat)} {r : List Nat} : ∀ x ∈ freeF ps r, x ∈ r := fun x hx => by
  obtain ⟨i, hi, rfl⟩ := List.mem_map.mp hx
  have := List.mem_range.mp (List.mem_filter.mp hi).1
  exact List.mem_of_getElem? (getD_of this)
theorem free_ne {ps : List (Nat × Nat)} {r : List Nat} (h : r ≠ []) : freeF ps r ≠ [] := by
  have hl : 0 < r.length := List.length_pos_iff.mpr h
  intro z
  have : r.getD 0 0 ∈ freeF ps r := List.mem_map.mpr ⟨0, List.mem_filter.mpr ⟨List.mem_range.mpr hl, by simp⟩, rfl⟩
  rw [z] at this
  cases this
theorem filter_one {r : List Nat} {c : Nat} (nd : r.Nodup) (hc : c ∈ r) : (r.filter fun x => x != c).length + 1 = r.length := by
  induction r with
  | nil => cases hc
  | cons a r ih =>
    have hnd := List.nodup_cons.mp nd
    rw [List.filter_cons]
    by_cases hac : a = c
    · subst hac
      rw [if_neg (by simp)]
      have : r.filter (fun x => x != a) = r := List.filter_eq_self.mpr fun x hx => by
        have : x ≠ a := fun e => hnd.1 (e ▸ hx)
        simp [this]
      rw [this, List.length_cons]
    · rw [if_pos (by simp [hac]), List.length_cons, List.length_cons]
      have := ih hnd.2 (by rcases List.mem_cons.mp hc with e | h; exact absurd e.symm hac; exact h)
      omega
theorem kSt_ok {ps : List (Nat × Nat)} {r0 : List Nat} (nd : r0.Nodup) : ∀ i, i ≤ r0.length → (kSt ps r0 i).2.Nodup ∧ (kSt ps r0 i).2.length + i = r0.length ∧ (kSt ps r0 i).1.length = i ∧ ∀ x ∈ (kSt ps r0 i).2, x ∈ r0
  | 0, _ => ⟨nd, rfl, rfl, fun x hx => hx⟩
  | i + 1, h => by
    obtain ⟨h1, h2, h3, h4⟩ := kSt_ok (ps := ps) nd i (by omega)
    have hne : (kSt ps r0 i).2 ≠ [] := fun z => by
      rw [z] at h2
      simp at h2
      omega
    have hmem := free_sub _ (minL_mem (free_ne (ps := ps) hne))
    have hf := filter_one h1 hmem
    refine ⟨h1.sublist List.filter_sublist, ?_, ?_, fun x hx => h4 x (List.mem_filter.mp hx).1⟩
    · show ((kSt ps r0 i).2.filter fun x => x != minL (freeF ps (kSt ps r0 i).2)).length + (i + 1) = r0.length
      omega
    · show ((kSt ps r0 i).1 ++ [_]).length = i + 1
      rw [List.length_append, h3]
      rfl
theorem repl_tx (r : List Nat) (c : Nat) : Txt.replace (tx r) ⟨#[c]⟩ ⟨#[]⟩ = tx (r.filter fun x => x != c) := by
  have h := PyProof.Rows.replace_strikes (x := tx r) (c := c)
  have e : (Txt.replace (tx r) ⟨#[c]⟩ ⟨#[]⟩).cps = (r.filter fun x => x != c).toArray := by
    rw [← Array.toArray_toList (xs := (Txt.replace (tx r) ⟨#[c]⟩ ⟨#[]⟩).cps), h]
  show (Txt.replace (tx r) ⟨#[c]⟩ ⟨#[]⟩) = ⟨_⟩
  rw [← e]
theorem sh_signs {bs : List Nat} (h : ∀ c ∈ bs, c < 200) : SeqAt.shaped (.list (bs.map fun c => PyData.str ⟨#[c]⟩)) = true := by
  refine shaped_list ?_ (Nat.le_trans (depth_all (d := fun c : Nat => PyData.str ⟨#[c]⟩) (n := 1) (fun b => by simp [PyData.depth]) bs) (by omega))
  induction bs with
  | nil => simp [PyData.canLayAll0]
  | cons c bs ih =>
    have hc := h c (by simp)
    have h2 := ih fun c hc => h c (List.mem_cons_of_mem _ hc)
    rw [List.map_cons]
    have h3 : PyData.canLay0 (.str ⟨#[c]⟩) = true := by
      have : c < 0x110000 := by omega
      simp [PyData.canLay0, PyData.strOk, this]
    simp only [PyData.canLayAll0]
    rw [h3, h2]
    rfl
theorem forB_rng {ta : TA} {j n : Nat} {tb : TSB} {D : EndsB} {B : Nat} {σ : L2.St} {H : Hp} (h : EvA ta σ H [.int (n : Int)]) (hn : n ≤ 100000) (Pv : Nat → Nat → L2.St → Hp → Prop) (h0 : ∀ H1, Ex H H1 → Pv 0 B σ H1)
    (hs : ∀ i B σ' H', i < n → Pv i B σ' H' → tb B ⟨Pv (i + 1), D.rt⟩ (σ'.set j (some (.int (i : Int)))) H') (hd : ∀ B σ' H', Pv n B σ' H' → D.nx B σ' H') : tForB (iRng1 ta) (gName j) tb B D σ H := h H (Ex.refl H) _ fun H1 e => by
  refine ⟨n, rfl, by omega, by omega, fun i m B σ' H' => m = n - i ∧ i ≤ n ∧ Pv i B σ' H', ⟨n, by simp, Nat.zero_le _, h0 H1 e⟩, ?_⟩
  rintro i m B σ' H' ⟨rfl, hi, p⟩
  rw [Int.toNat_natCast]
  by_cases hlt : i < n
  · refine .inr ⟨walk_range.goes i H' hlt trivial, fun B' σ' H' => Pv (i + 1) B' σ' H', fun B' σ' H' p' => ⟨n - (i + 1), by omega, rfl, hlt, p'⟩, fun x H'' y => ?_⟩
    obtain ⟨rfl, rfl⟩ := walk_range.yields i H' x H'' hlt trivial y
    show tb B _ (σ'.set j (some (.int ((0 : Int) + (i : Int))))) _
    rw [Int.zero_add]
    exact hs i B σ' _ hlt p
  · have e : i = n := by omega
    subst e
    exact .inl ⟨walk_range.stops H' trivial, hd B σ' H' p⟩
section
variable {P : Program} {w : World} {K : PySem.W.Frag} {mg : Str → Option Value} {base : Heap} {f : Addr} {fd : FuncData} {k : Nat}
theorem sc38 : FnScope ["_law_company_here", "_law_word_here", "_law_rest", "_law_found", "_law_turn", "_law_free", "_law_at", "_law_sign"] ["_law_company_here", "_law_word_here"] (defScope (top 38)) := ⟨rfl, rfl, rfl, by decide +kernel, rfl, by decide +kernel, by decide +kernel⟩
abbrev spKin : Sp := sp2 rCo rX (fun c l => c.2.length ≤ 6 ∧ l.length ≤ 200 ∧ ∀ x ∈ l, 97 ≤ x ∧ x ≤ 103) rX fun c l => kindF c.2 l
def freeTo (ps : List (Nat × Nat)) (r : List Nat) (n : Nat) : List Nat := ((List.range n).filter fun i => decide (((r.take i).filter fun s => friendF ps s (r.getD i 0)) = [])).map fun i => r.getD i 0
theorem freeTo_succ (ps : List (Nat × Nat)) (r : List Nat) (n : Nat) : freeTo ps r (n + 1) = if ((r.take n).filter fun s => friendF ps s (r.getD n 0)) = [] then freeTo ps r n ++ [r.getD n 0] else freeTo ps r n := by
  unfold freeTo
  rw [List.range_succ, List.filter_append, List.map_append, List.filter_cons]
  by_cases h : ((r.take n).filter fun s => friendF ps s (r.getD n 0)) = []
  · rw [if_pos (decide_eq_true h), if_pos h]
    rfl
  · rw [if_neg (fun z => h (of_decide_eq_true z)), if_neg h]
    simp
theorem freeTo_len (ps : List (Nat × Nat)) (r : List Nat) (n : Nat) : (freeTo ps r n).length ≤ n := by
  unfold freeTo
  rw [List.length_map]
  have := List.length_filter_le (fun i => decide (((r.take i).filter fun s => friendF ps s (r.getD i 0)) = [])) (List.range n)
  rw [List.length_range] at this
  exact this
theorem ok_kin {g1 g2 : Addr} {gd1 gd2 : FuncData} (F : Fun K "_law_kind" "_law_kind" (top 38) f fd) (C : Cal P w K mg base 1 "_law_firsts" g1 gd1 ["_law_word_here"] spFst) (W : Cal P w K mg base 1 "_law_friend" g2 gd2 ["_law_company_here", "_law_one", "_law_other"] spFri)
    (ml : mg "len" = none) (mr : mg "range" = none) (mn : mg "min" = none) : FnOk P w K mg base CX0 (k + 2) f fd ["_law_company_here", "_law_word_here"] spKin := by
  refine F.ok sc38 (fun vs H Q E h => ?_) (fun cdv A outer s H vs Q E hr h => ?_)
  · obtain ⟨x, y, a, b, rfl, _⟩ := h
    rfl
  obtain ⟨x, y, ⟨n, ps⟩, l, rfl, hx, hy, ⟨hps, hl, hin⟩, q⟩ := h
  cases hy
  refine ⟨_, pss_first (i := 2) (j := 3) rfl sc38.nd rfl rfl (.inr rfl) (.inl rfl) (by first | exact .inl rfl | exact .inr rfl) (by first | exact .inl rfl | exact .inr rfl) (pe_cal C (by omega : 1 ≤ k + 1) hr (pa_cons (pv 1) pa_nil))
    (psb_cons (psb_for PassesOwn.never rfl (pi_range1 (by rfl) mr (pa_cons (pe_callB call_len_str (by rfl) ml boot_len (pa_cons (pv 2) pa_nil)) pa_nil)) (pg_name (i := 4) sc38.nd rfl (.inl rfl))
      (psb_cons (psb_free0 (i := 5) sc38.nd rfl (.inl rfl))
      (psb_cons (psb_for PassesOwn.never rfl (pi_range1 (by rfl) mr (pa_cons (pe_callB call_len_str (by rfl) ml boot_len (pa_cons (pv 2) pa_nil)) pa_nil)) (pg_name (i := 6) sc38.nd rfl (.inr rfl))
        (psb_one (psb_if (pt_cmpR (op_eqD hr.units) (pe_lc (own := [("_law_sign", 7)]) (g := gName 7) rfl sc38.nd (pi_str (pe_slice sl_str (pv 2) po_none (po_some (pv 6))))
            (blkOk_by (N := ["_law_company_here", "_law_word_here", "_law_rest", "_law_found", "_law_turn", "_law_free", "_law_at", "_law_sign"]) (sc := defScope (top 38)) (by decide +kernel)) (fun _ _ _ _ _ => pg_name (i := 7) sc38.nd rfl (.inl rfl))
            (fun _ _ _ _ _ => pts_one (pt_val (pe_cal W (by omega : 1 ≤ k + 1) hr (pa_cons (pv 0) (pa_cons (pv 7) (pa_cons (pe_ix ix_str (pv 2) (pv 6) (fun _ _ => rfl)) pa_nil)))))) (fun _ _ _ _ _ => pv 7)) (pe_lst pa_nil) (nomark _))
          (psb_one (psb_freeApp (jf := 5) (jr := 2) (ja := 6) rfl (.inl rfl) rfl (.inr (.inl rfl)) rfl (.inr (.inl rfl)))))))
      (psb_one (psb_parC (i := 3) (j := 2) rfl sc38.nd rfl rfl (.inl rfl) (.inr rfl) (by first | exact .inl rfl | exact .inr rfl) (by first | exact .inl rfl | exact .inr rfl) (pe_op op_add_str (pv 3) (pe_callB (cr_minF rfl) (by rfl) mn boot_min (pa_cons (pv 5) pa_nil)))
        (peb_replMin (jr := 2) (jf := 5) rfl (by decide +kernel) rfl (.inl rfl) rfl (.inr (.inl rfl)) (by rfl) mn))))))
    (psb_one (psb_of (ps_ret (pv 3))))), ?_⟩
  refine (er_c1 (R := rX) (G := fun l => l.length ≤ 200) (S := rX) (f := firstsF) (E := E0) (er_var (σ := [some x, some (.str (tx l)), none, none, none, none, none, none]) (a := l) rfl rfl mn_S) hl) H (Ex.refl _) _ fun v H1 e1 rv => ?_
  cases rv
  have nd := firsts_nd l
  have hlen := firsts_len l
  have hmem := firsts_mem l
  generalize hr0 : firstsF l = r0 at nd hlen hmem
  show tForB _ _ _ 1 _ [some x, some (.str (tx l)), some (.str (tx r0)), some (.str ⟨#[]⟩), none, none, none, none] H1
  refine forB_rng (n := r0.length) (ea_cons (ev_lenX (by omega) (ev_var rfl)) ea_nil) (by omega) (fun i B σ' H' => 1 ≤ B ∧ Ex H H' ∧ ∃ y4 y5 y6 y7, σ' = [some x, some (.str (tx l)), some (.str (tx (kSt ps r0 i).2)), some (.str (tx (kSt ps r0 i).1)), y4, y5, y6, y7]) (fun H2 e2 => ⟨Nat.le_refl _, e1.trans e2, _, _, _, _, rfl⟩) (fun i B σ' H' hi hP => ?_) fun B σ' H' hP => ?_
  · obtain ⟨hB1, eH, y4, y5, y6, y7, rfl⟩ := hP
    obtain ⟨nd1, len1, len1', mem1⟩ := kSt_ok (ps := ps) nd i (by omega)
    have hk1 : (kSt ps r0 (i + 1)).1 = (kSt ps r0 i).1 ++ [minL (freeF ps (kSt ps r0 i).2)] := rfl
    have hk2 : (kSt ps r0 (i + 1)).2 = (kSt ps r0 i).2.filter fun x => x != minL (freeF ps (kSt ps r0 i).2) := rfl
    rw [hk1, hk2]
    generalize (kSt ps r0 i).2 = rest at nd1 len1 mem1 ⊢
    generalize (kSt ps r0 i).1 = found at len1' ⊢
    intro p hp
    have hcode : ∀ c ∈ rest, 97 ≤ c ∧ c ≤ 103 := fun c hc => hin c ((hmem c).mp (mem1 c hc))
    dsimp only [tSeqB]
    refine forB_rng (σ := [some x, some (.str (tx l)), some (.str (tx rest)), some (.str (tx found)), some (.int (i : Int)), some (.ref p), y6, y7]) (H := upd H' p (FreeO p 1 [])) (n := rest.length) (ea_cons (ev_lenX (by omega) (ev_var rfl)) ea_nil) (by omega) (fun j B σ' H'' => 1 ≤ B ∧ Ex H' H'' ∧ ∃ y6 y7 B0, σ' = [some x, some (.str (tx l)), some (.str (tx rest)), some (.str (tx found)), some (.int (i : Int)), some (.ref p), y6, y7] ∧ H'' p = some (FreeO p B0 ((freeTo ps rest j).map fun c => (⟨#[c]⟩ : Str))) ∧ B0 ≤ B)
      (fun H2 e2 => ⟨hB1, (Ex.new hp).trans e2, _, _, 1, rfl, e2 _ _ upd_same, hB1⟩) (fun j B' σ' H'' hj hP => ?_) fun B' σ' H'' hP => ?_
    · obtain ⟨hB2, e2, y6, y7, B0, rfl, hF, hB⟩ := hP
      have hg := getD_of hj
      have hbnd := hcode _ (List.mem_of_getElem? hg)
      have htest := ev_eq0 (K := K) (σ := [some x, some (.str (tx l)), some (.str (tx rest)), some (.str (tx found)), some (.int (i : Int)), some (.ref p), some (.int (j : Int)), y7]) (H := H'') (R := rC) (d := fun c : Nat => PyData.str ⟨#[c]⟩) (bs := (rest.take j).filter fun s => friendF ps s (rest.getD j 0))
        (er_is (er_lc (R := rC) (S := rC) (as := rest.take j) (up := fun x _ σ => σ.set 7 (some x)) (vs := [7]) (g := gName 7) (t := tB (tCall spFri [] E0 (tCons (tVar 0) (tCons (tVar 7) (tCons (tOp rIxS (tVar 2) (tVar 6)) tNil))))) (te := tVar 7) (fun s => friendF ps s (rest.getD j 0)) (fun s => s) (ei_str (er_take (te := tVar 2) (ta := tVar 6) (er_var (a := rest) rfl rfl mn_S) (er_var (a := j) rfl rfl mn_S) (by omega))) mt_S (by rw [List.length_take]; omega) tg_name
          fun a z H4 e4 ha ra => ⟨rfl, et_B (ev_er (er_c3 (er_var rfl (mn_co _ _ _ _ ((eH.trans e2).trans e4) hx) mn_co) (er_var rfl ra mn_S) (er_ixX (er_var (a := rest) rfl rfl mn_S) (er_var (a := j) rfl rfl mn_S) (by omega) hg) mn_co mn_S ⟨hps, hcode a (List.mem_of_mem_take ha), hbnd⟩)), fun _ => er_var rfl ra mn_S⟩) (by rw [List.map_id'])) mn_S (fun H v b r => by cases r; exact .str _) (sh_signs fun c hc => by have := hcode c (List.mem_of_mem_take (List.mem_filter.mp hc).1); omega)
      refine (et_test htest) H'' (Ex.refl _) _ fun H5 e5 => ?_
      have hF5 : H5 p = some (FreeO p B0 ((freeTo ps rest j).map fun c => (⟨#[c]⟩ : Str))) := e5 _ _ hF
      by_cases hb : ((rest.take j).filter fun s => friendF ps s (rest.getD j 0)) = []
      · rw [decide_eq_true hb]
        refine iteT ⟨p, B0, _, tx rest, j, rest.getD j 0, rfl, rfl, rfl, hF5, hB, ?_, by omega, by rw [len_tx]; exact hj, by simpa using hg, fun B2 hB3 => ⟨Nat.le_trans hB2 hB3, ?_, _, _, B2, rfl, ?_, Nat.le_refl _⟩⟩
        · rw [List.length_map]
          have := freeTo_len ps rest j
          omega
        · exact Ex.mut (e2.trans e5) hp
        · rw [upd_same, freeTo_succ, if_pos hb, List.map_append]
          rfl
      · rw [decide_eq_false hb]
        refine iteF ⟨hB2, e2.trans e5, _, _, B0, rfl, ?_, hB⟩
        rw [freeTo_succ, if_neg hb]
        exact hF5
    · obtain ⟨hB2, e2, y6, y7, B0, rfl, hF, hB⟩ := hP
      have hfe : freeTo ps rest rest.length = freeF ps rest := rfl
      rw [hfe] at hF
      have hrne : rest ≠ [] := fun z => by
        rw [z] at len1
        simp at len1
        omega
      have hfne := free_ne (ps := ps) hrne
      have hbm := best_min hfne
      have hpos : 0 < ((freeF ps rest).map fun c => (⟨#[c]⟩ : Str)).length := by
        rw [List.length_map]
        exact List.length_pos_iff.mpr hfne
      refine ⟨_, rfl, _, rfl, p, B0, _, rfl, hF, hpos, ?_⟩
      rw [hbm]
      refine ⟨tx found, ⟨#[minL (freeF ps rest)]⟩, rfl, rfl, sz4 (by rw [len_tx]; show found.length + 1 ≤ 100000; omega), ?_⟩
      refine ⟨tx rest, p, B0, _, rfl, rfl, hF, hB, hpos, ?_, by rw [len_tx]; omega, ?_⟩
      · rw [hbm]
        rfl
      · rw [hbm, repl_tx]
        refine ⟨hB2, eH.trans e2, some (.int (i : Int)), some (.ref p), y6, y7, ?_⟩
        have e3 : tx found ++ (⟨#[minL (freeF ps rest)]⟩ : Str) = tx (found ++ [minL (freeF ps rest)]) := by
          show (⟨found.toArray ++ #[minL (freeF ps rest)]⟩ : Str) = ⟨(found ++ [minL (freeF ps rest)]).toArray⟩
          congr 1
          simp
        rw [e3]
        rfl
  · obtain ⟨hB1, eH, y4, y5, y6, y7, rfl⟩ := hP
    refine s_ret (ev_var rfl) fun H9 e9 => q _ H9 (eH.trans e9) ?_
    show V.str _ = V.str (tx (kindF ps l))
    unfold kindF
    rw [hr0]
end
end F1
set_option Elab.async false
set_option linter.all false
set_option maxRecDepth 100000
set_option maxHeartbeats 1000000
namespace F1
open PySem PySem.Spec PyProof.Rows L2 Evl
abbrev sg (c : Nat) : Str := ⟨#[c]⟩
theorem sg_inj {a b : Nat} (h : sg a = sg b) : a = b := by
  injection h with h
  have h2 := congrArg Array.toList h
  simpa using h2
theorem rising_sg : ∀ (l : List Nat) (a : Nat), risingS (sg a) (l.map sg) = true → (∀ x ∈ l, a ≤ x) ∧ l.Pairwise (· ≤ ·)
  | [], a, _ => ⟨(fun x hx => nomatch hx), List.Pairwise.nil⟩
  | b :: r, a, h => by
    have h2 : ¬ (b < a) ∧ risingS (sg b) (r.map sg) = true := by
      have h3 : (!ltCps [b] [a] && risingS (sg b) (r.map sg)) = true := h
      rw [Bool.and_eq_true] at h3
      refine ⟨fun z => ?_, h3.2⟩
      have h4 : ltCps [b] [a] = true := by simp [ltCps, z]
      rw [h4] at h3
      exact absurd h3.1 (by decide)
    obtain ⟨h4, h5⟩ := rising_sg r b h2.2
    refine ⟨fun x hx => ?_, List.pairwise_cons.mpr ⟨h4, h5⟩⟩
    rcases List.mem_cons.mp hx with rfl | hx
    · omega
    · have := h4 x hx
      omega
theorem sorted_sg {l : List Nat} (h : sortedS (l.map sg) = true) : l.Pairwise (· ≤ ·) := by
  cases l with
  | nil => exact List.Pairwise.nil
  | cons a r =>
    obtain ⟨h1, h2⟩ := rising_sg r a h
    exact List.pairwise_cons.mpr ⟨h1, h2⟩
/-- what is a shuffle of an image is an image -/
theorem perm_img {α β : Type} {f : α → β} : ∀ {ys : List β} {l : List α}, ys.Perm (l.map f) → ∃ l' : List α, ys = l'.map f ∧ l'.Perm l := by
  intro ys l h
  generalize hz : l.map f = zs at h
  induction h generalizing l with
  | nil =>
    cases l with
    | nil => exact ⟨[], rfl, .nil⟩
    | cons a r => cases hz
  | cons x p ih =>
    cases l with
    | nil => cases hz
    | cons a r =>
      injection hz with h1 h2
      obtain ⟨l', e, p'⟩ := ih h2
      exact ⟨a :: l', by rw [List.map_cons, h1, e], p'.cons a⟩
  | swap x y l1 =>
    cases l with
    | nil => cases hz
    | cons a r =>
      cases r with
      | nil => cases hz
      | cons b r =>
        injection hz with h1 h2
        injection h2 with h2 h3
        exact ⟨b :: a :: r, by rw [List.map_cons, List.map_cons, h1, h2, h3], .swap a b r⟩
  | trans p1 p2 ih1 ih2 =>
    obtain ⟨l1, e1, q1⟩ := ih2 hz
    obtain ⟨l2, e2, q2⟩ := ih1 e1.symm
    exact ⟨l2, e2, q2.trans q1⟩
theorem er_sortT {σ : L2.St} {H : Hp} {te : TE} {l : List Nat} (h : EvR te σ H rX l) (hl : l.length < 64) (ha : l.Pairwise (· < ·)) : EvR (tCB R3.rSortTx (tCons te tNil)) σ H (rL rC) l := er_cb1 h fun x H1 e1 r Q q => by
  cases r
  refine ⟨tx l, rfl, by simpa using hl, fun ys p hp hs hn => ?_⟩
  have hp2 : ys.Perm (l.map sg) := by
    have : R3.signs (tx l) = l.map sg := by
      unfold R3.signs
      simp
    rw [this] at hp
    exact hp
  obtain ⟨l', rfl, p'⟩ := perm_img hp2
  have hle := sorted_sg hs
  have e : l' = l := List.Perm.eq_of_pairwise (le := (· ≤ ·)) (fun a b _ _ h1 h2 => Nat.le_antisymm h1 h2) hle (ha.imp fun h => Nat.le_of_lt h) p'
  subst e
  exact q _ _ (Ex.new hn) ⟨p, _, rfl, upd_same, by rw [List.map_map]; exact map_pd l'⟩
/-! ### _law_orders -/
def ordStep (l : List Nat) (rows : List (List Nat)) : List (List Nat) := rows.foldl (fun acc t => acc ++ (l.filter fun s => !decide (s ∈ t)).map fun s => t ++ [s]) []
def ordTo (l : List Nat) : Nat → List (List Nat)
  | 0 => [[]]
  | i + 1 => ordStep l (ordTo l i)
def ordersF (l : List Nat) : List (List Nat) := ordTo l l.length
theorem ord_fold (l : List Nat) : ∀ (rows acc : List (List Nat)), rows.foldl (fun acc t => acc ++ (l.filter fun s => !decide (s ∈ t)).map fun s => t ++ [s]) acc = acc ++ ordStep l rows
  | [], acc => by simp [ordStep]
  | t :: rows, acc => by
    unfold ordStep
    rw [List.foldl_cons, List.foldl_cons, ord_fold l rows, ord_fold l rows, List.nil_append, List.append_assoc]
theorem ordStep_cons (l t : List Nat) (rows : List (List Nat)) : ordStep l (t :: rows) = ((l.filter fun s => !decide (s ∈ t)).map fun s => t ++ [s]) ++ ordStep l rows := by
  show (t :: rows).foldl _ [] = _
  rw [List.foldl_cons, ord_fold, List.nil_append]
theorem mem_ordStep (l : List Nat) : ∀ (rows : List (List Nat)) (x : List Nat), x ∈ ordStep l rows ↔ ∃ t s, t ∈ rows ∧ s ∈ l ∧ s ∉ t ∧ x = t ++ [s]
  | [], x => by simp [ordStep]
  | t :: rows, x => by
    rw [ordStep_cons, List.mem_append, mem_ordStep l rows x]
    constructor
    · rintro (h | ⟨t', s, h1, h2, h3, h4⟩)
      · obtain ⟨s, hs, rfl⟩ := List.mem_map.mp h
        obtain ⟨h1, h2⟩ := List.mem_filter.mp hs
        exact ⟨t, s, by simp, h1, by simpa using h2, rfl⟩
      · exact ⟨t', s, List.mem_cons_of_mem _ h1, h2, h3, h4⟩
    · rintro ⟨t', s, h1, h2, h3, rfl⟩
      rcases List.mem_cons.mp h1 with rfl | h1
      · exact .inl (List.mem_map.mpr ⟨s, List.mem_filter.mpr ⟨h2, by simpa using h3⟩, rfl⟩)
      · exact .inr ⟨t', s, h1, h2, h3, rfl⟩
theorem ordStep_len (l : List Nat) : ∀ rows : List (List Nat), (ordStep l rows).length ≤ l.length * rows.length
  | [] => by simp [ordStep]
  | t :: rows => by
    have h := ordStep_len l rows
    have h2 := List.length_filter_le (fun s => !decide (s ∈ t)) l
    rw [ordStep_cons, List.length_append, List.length_map, List.length_cons, Nat.mul_succ]
    omega
theorem mem_ordTo (l : List Nat) : ∀ (i : Nat) (x : List Nat), x ∈ ordTo l i ↔ x.length = i ∧ x.Nodup ∧ ∀ s ∈ x, s ∈ l
  | 0, x => by
    show x ∈ [[]] ↔ _
    rw [List.mem_singleton]
    constructor
    · rintro rfl
      exact ⟨rfl, List.nodup_nil, fun s hs => nomatch hs⟩
    · intro h
      exact List.length_eq_zero_iff.mp h.1
  | i + 1, x => by
    show x ∈ ordStep l (ordTo l i) ↔ _
    rw [mem_ordStep]
    constructor
    · rintro ⟨t, s, h1, h2, h3, rfl⟩
      obtain ⟨a, b, c⟩ := (mem_ordTo l i t).mp h1
      refine ⟨by rw [List.length_append, a]; rfl, List.nodup_append.mpr ⟨b, by simp, fun u hu v hv e => h3 ?_⟩, fun u hu => ?_⟩
      · rw [List.mem_singleton] at hv
        rw [← hv, ← e]
        exact hu
      · rcases List.mem_append.mp hu with hu | hu
        · exact c u hu
        · rw [List.mem_singleton] at hu
          rw [hu]
          exact h2
    · rintro ⟨h1, h2, h3⟩
      rcases List.eq_nil_or_concat x with rfl | ⟨t, s, rfl⟩
      · cases h1
      · rw [List.concat_eq_append] at h1 h2 h3 ⊢
        obtain ⟨n1, n2, n3⟩ := List.nodup_append.mp h2
        refine ⟨t, s, (mem_ordTo l i t).mpr ⟨by simp at h1; exact h1, n1, fun u hu => h3 u (List.mem_append_left _ hu)⟩, h3 s (by simp), fun z => n3 s z s (by simp) rfl, rfl⟩
theorem ordTo_len {l : List Nat} (h : l.length ≤ 4) : ∀ i, (ordTo l i).length ≤ 4 ^ i
  | 0 => Nat.le_refl _
  | i + 1 => by
    have h1 := ordTo_len h i
    have h2 := ordStep_len l (ordTo l i)
    show (ordStep l (ordTo l i)).length ≤ 4 ^ (i + 1)
    rw [Nat.pow_succ]
    have h3 : l.length * (ordTo l i).length ≤ 4 * (ordTo l i).length := Nat.mul_le_mul_right _ h
    omega
theorem ordTo_256 {l : List Nat} (h : l.length ≤ 4) {i : Nat} (hi : i ≤ 4) : (ordTo l i).length ≤ 256 := Nat.le_trans (ordTo_len h i) (Nat.le_trans (Nat.pow_le_pow_right (by omega) hi) (by decide))
section
variable {P : Program} {w : World} {K : PySem.W.Frag} {mg : Str → Option Value} {base : Heap} {f : Addr} {fd : FuncData} {k : Nat}
theorem sc39 : FnScope ["_law_letters", "_law_rows", "_law_turn", "_law_longer", "_law_told", "_law_sign"] ["_law_letters"] (defScope (top 39)) := ⟨rfl, rfl, rfl, by decide +kernel, rfl, by decide +kernel, by decide +kernel⟩
abbrev spOrd : Sp := sp1 rX (fun l => l.length ≤ 4 ∧ l.Pairwise (· < ·)) (rL rX) ordersF
theorem ok_ord (F : Fun K "_law_orders" "_law_orders" (top 39) f fd) (ml : mg "len" = none) (mr : mg "range" = none) (ms : mg "sorted" = none) : FnOk P w K mg base CX0 (k + 1) f fd ["_law_letters"] spOrd := by
  refine F.ok sc39 (fun vs H Q E h => ?_) (fun cdv A outer s H vs Q E hr h => ?_)
  · obtain ⟨x, a, rfl, _⟩ := h
    rfl
  obtain ⟨x, l, rfl, hx, ⟨hl, hasc⟩, q⟩ := h
  cases hx
  refine ⟨_, pss_cons (ps_set (i := 1) sc39.nd rfl (.inl rfl) (pe_lst (pa_cons pe_str pa_nil)))
    (pss_cons (ps_for PassesOwn.never rfl (pi_range1 (by rfl) mr (pa_cons (pe_callB call_len_str (by rfl) ml boot_len (pa_cons (pv 0) pa_nil)) pa_nil)) (pg_name (i := 2) sc39.nd rfl (.inl rfl))
      (pss_cons (ps_set (i := 3) sc39.nd rfl (.inl rfl) (pe_lst pa_nil))
      (pss_cons (ps_for PassesOwn.never rfl (pi_list (pv 1)) (pg_name (i := 4) sc39.nd rfl (.inr rfl))
        (pss_one (ps_set (i := 3) sc39.nd rfl (.inl rfl) (pe_op op_cat (pv 3) (pe_lc (own := [("_law_sign", 5)]) (g := gName 5) rfl sc39.nd (pi_list (pe_callB (R3.cr_sortTx rfl) (by rfl) ms boot_sorted (pa_cons (pv 0) pa_nil)))
          (blkOk_by (N := ["_law_letters", "_law_rows", "_law_turn", "_law_longer", "_law_told", "_law_sign"]) (sc := defScope (top 39)) (by decide +kernel)) (fun _ _ _ _ _ => pg_name (i := 5) sc39.nd rfl (.inl rfl))
          (fun _ _ _ _ _ => pts_one (pt_cmpR op_notInS (pv 5) (pv 4) (by rfl))) (fun _ _ _ _ _ => pe_op op_add_str (pv 4) (pv 5)))))))
      (pss_one (ps_set (i := 1) sc39.nd rfl (.inl rfl) (pv 3))))))
    (pss_one (ps_ret (pv 1)))), ?_⟩
  refine r_set (R := rL rX) (a := [[]]) (er_lst1 (R := rX) (er_ev (f := fun l => V.str (tx l)) (a := []) ev_c) mn_S) fun v0 H1 e1 r1 => ?_
  refine r_forN (R := rN) (as := List.range l.length) (fun i σ' H' => Ex H H' ∧ ∃ v y2 y3 y4 y5, σ' = [some (.str (tx l)), some v, y2, y3, y4, y5] ∧ rL rX H' v (ordTo l i)) (ei_rng (ea_cons (ev_lenX (by omega) (ev_var rfl)) ea_nil) (by omega)) tg_name (fun H2 e2 => ⟨e1.trans e2, v0, _, _, _, _, rfl, mn_L mn_S _ _ _ _ e2 r1⟩)
    (fun H2 e2 i a x σ' H' e3 ha ra hP => ?_) (fun i σ' H' H'' e h => ?_) fun σ' H' e2 hP => ?_
  · obtain ⟨eH, v, y2, y3, y4, y5, rfl, rv⟩ := hP
    cases ra
    have hil : i < l.length := by
      have := (List.getElem?_eq_some_iff.mp ha).1
      simpa using this
    have h256 := ordTo_256 hl (show i ≤ 4 by omega)
    have hrow : ∀ t ∈ ordTo l i, t.length ≤ 4 := fun t ht => by
      have := ((mem_ordTo l i t).mp ht).1
      omega
    refine r_set (R := rL rX) (a := []) er_lst0 fun v3 H4 e4 r4 => ?_
    refine r_forN (R := rX) (as := ordTo l i) (fun j σ' H' => Ex H H' ∧ ∃ v3 y4 y5, σ' = [some (.str (tx l)), some v, some (.int (a : Int)), some v3, y4, y5] ∧ rL rX H' v (ordTo l i) ∧ rL rX H' v3 (ordStep l ((ordTo l i).take j))) (ei_list (er_var rfl (mn_L mn_S _ _ _ _ e4 rv) (mn_L mn_S)) mn_S) tg_name
      (fun H5 e5 => ⟨(eH.trans e4).trans e5, v3, _, _, rfl, mn_L mn_S _ _ _ _ (e4.trans e5) rv, mn_L mn_S _ _ _ _ e5 r4⟩) (fun H5 e5 j t z σ' H' e6 ht rt hP => ?_) (fun j σ' H' H'' e h => ?_) fun σ' H' e5 hP => ?_
    · obtain ⟨eH2, v3, y4, y5, rfl, rv1, rv3⟩ := hP
      cases rt
      have ht4 := hrow t (List.mem_of_getElem? ht)
      have hjl : j < (ordTo l i).length := (List.getElem?_eq_some_iff.mp ht).1
      have hol := ordStep_len l ((ordTo l i).take j)
      rw [List.length_take] at hol
      have hol2 : l.length * min j (ordTo l i).length ≤ 4 * 256 := Nat.mul_le_mul hl (by omega)
      have hsnoc : ordStep l ((ordTo l i).take (j + 1)) = ordStep l ((ordTo l i).take j) ++ (l.filter fun s => !decide (s ∈ t)).map fun s => t ++ [s] := by
        rw [List.take_add_one, ht]
        show ((ordTo l i).take j ++ [t]).foldl _ [] = _
        rw [List.foldl_append]
        rfl
      rw [hsnoc]
      refine r_set1 (R := rL rX) (er_cat (er_var rfl rv3 (mn_L mn_S)) (er_lc (R := rC) (S := rX) (as := l) (fun s => !decide (s ∈ t)) (fun s => t ++ [s]) (ei_list (er_sortT (er_var (a := l) rfl rfl mn_S) (by omega) hasc) mn_S) mt_S (by omega) tg_name
        fun b z H7 e7 hb rb => ⟨rfl, et_test (ev_ni (er_var rfl rb mn_S) (er_var rfl rfl mn_S)), fun _ => ?_⟩) mn_S ?_) fun v4 H7 e7 r7 => ⟨e6.trans e7, eH2.trans e7, v4, _, _, rfl, mn_L mn_S _ _ _ _ e7 rv1, r7⟩
      · cases rb
        exact er_catX (er_var (a := t) rfl rfl mn_S) (er_var (R := rX) (a := [b]) rfl rfl mn_S) (by simp; omega) fun i j H1 Q h1 h2 => ⟨i, j, rfl, rfl, h1, h2⟩
      · rw [List.length_map]
        have := List.length_filter_le (fun s => !decide (s ∈ t)) l
        omega
    · obtain ⟨eH2, v3, y4, y5, rfl, rv1, rv3⟩ := h
      exact ⟨eH2.trans e, v3, y4, y5, rfl, mn_L mn_S _ _ _ _ e rv1, mn_L mn_S _ _ _ _ e rv3⟩
    · obtain ⟨eH2, v3, y4, y5, rfl, rv1, rv3⟩ := hP
      rw [List.take_length] at rv3
      exact r_set1 (R := rL rX) (er_var rfl rv3 (mn_L mn_S)) fun v4 H7 e7 r7 => ⟨((e3.trans e4).trans e5).trans e7, eH2.trans e7, v4, _, _, _, _, rfl, r7⟩
  · obtain ⟨eH, v, y2, y3, y4, y5, rfl, rv⟩ := h
    exact ⟨eH.trans e, v, y2, y3, y4, y5, rfl, mn_L mn_S _ _ _ _ e rv⟩
  · obtain ⟨eH, v, y2, y3, y4, y5, rfl, rv⟩ := hP
    rw [List.length_range] at rv
    exact r_ret (er_var rfl rv (mn_L mn_S)) fun v2 H3 e3 r3 => q v2 H3 (eH.trans e3) r3
end
end F1
set_option Elab.async false
set_option linter.all false
set_option maxRecDepth 100000
set_option maxHeartbeats 1000000
namespace F1
open PySem PySem.Spec PyProof.Rows L2 Evl
theorem tx_inj {a b : List Nat} (h : tx a = tx b) : a = b := by
  injection h with h
  have h2 := congrArg Array.toList h
  simpa using h2
/-- the different ones, as they come -/
def ddN (xs : List (List Nat)) : List (List Nat) := xs.foldl (fun L x => if x ∈ L then L else L ++ [x]) []
theorem ddN_snoc (xs : List (List Nat)) (x : List Nat) : ddN (xs ++ [x]) = if x ∈ ddN xs then ddN xs else ddN xs ++ [x] := by
  unfold ddN
  rw [List.foldl_append]
  rfl
theorem dd_tx (xs : List (List Nat)) : R3.dd (xs.map tx) = (ddN xs).map tx := by
  refine snoc_ind (P := fun xs => R3.dd (xs.map tx) = (ddN xs).map tx) rfl (fun l a ih => ?_) xs
  rw [List.map_append, List.map_singleton, R3.dd_snoc, ih, ddN_snoc]
  unfold R3.ddS
  by_cases h : a ∈ ddN l
  · rw [if_pos h, if_pos (List.mem_map.mpr ⟨a, h, rfl⟩)]
  · rw [if_neg h, if_neg, List.map_append]
    · rfl
    · intro z
      obtain ⟨b, hb, e⟩ := List.mem_map.mp z
      exact h (tx_inj e ▸ hb)
theorem ddN_mem (xs : List (List Nat)) : ∀ x, x ∈ ddN xs ↔ x ∈ xs := by
  refine snoc_ind (P := fun xs => ∀ x, x ∈ ddN xs ↔ x ∈ xs) (fun x => by simp [ddN]) (fun l c ih x => ?_) xs
  rw [ddN_snoc]
  by_cases hc : c ∈ ddN l
  · rw [if_pos hc, ih, List.mem_append, List.mem_singleton]
    exact ⟨.inl, fun h => h.elim id fun e => e ▸ (ih c).mp hc⟩
  · rw [if_neg hc, List.mem_append, List.mem_append, ih]
theorem ddN_nd (xs : List (List Nat)) : (ddN xs).Nodup := by
  refine snoc_ind (P := fun xs => (ddN xs).Nodup) (by simp [ddN]) (fun l c ih => ?_) xs
  rw [ddN_snoc]
  by_cases hc : c ∈ ddN l
  · rw [if_pos hc]
    exact ih
  · rw [if_neg hc, List.nodup_append]
    exact ⟨ih, by simp, fun a ha b hb e => hc (by rw [List.mem_singleton] at hb; rw [← hb, ← e]; exact ha)⟩
theorem ddN_len (xs : List (List Nat)) : (ddN xs).length ≤ xs.length := by
  refine snoc_ind (P := fun xs => (ddN xs).length ≤ xs.length) (Nat.le_refl _) (fun l c ih => ?_) xs
  rw [ddN_snoc, List.length_append, List.length_singleton]
  split
  · omega
  · rw [List.length_append, List.length_singleton]
    omega
/-- sets of texts -/
def rSt (w : World) : Rl (List (List Nat)) := fun H v L => ∃ p, v = .ref p ∧ H p = some (R3.SetSO w p (L.map tx))
theorem mn_St {w : World} : Mn (rSt w) := fun H H' v b e h => by
  obtain ⟨p, h1, h2⟩ := h
  exact ⟨p, h1, e _ _ h2⟩
section
variable {K : PySem.W.Frag} {w : World} {σ : L2.St} {H : Hp} {te ta tb tc : TE}
theorem er_set {L : List (List Nat)} (h : EvR te σ H (rL rX) L) (hl : L.length < 1000) : EvR (tCB (R3.rSetS K w) (tCons te tNil)) σ H (rSt w) (ddN L) := er_cb1 h fun x H1 e1 r Q q => by
  obtain ⟨p, us, rfl, hp, hu⟩ := r
  have hu2 := pd_map hu
  refine ⟨p, L.map tx, rfl, sq_of (by rw [hp, hu2, List.map_map] <;> rfl), by rw [List.length_map]; exact hl, fun p' hp' => q _ _ (Ex.new hp') ⟨p', rfl, ?_⟩⟩
  rw [upd_same, dd_tx]
theorem ev_lenSt {L : List (List Nat)} (h : EvR te σ H (rSt w) L) : Ev (tCB (R3.rLenSS w) (tCons te tNil)) σ H (.int (L.length : Int)) := ev_er (f := V.int) (er_cb1 h fun x H1 e1 r Q q => by
  obtain ⟨p, rfl, hp⟩ := r
  exact ⟨p, _, rfl, hp, by rw [List.length_map]; exact q _ H1 (Ex.refl _) rfl⟩)
end
/-- every set of the first four letters -/
theorem sets4 : ∀ l ∈ allSets 4, (l.length ≤ 4 ∧ l.Pairwise (· < ·)) ∧ (∀ x ∈ l, 97 ≤ x ∧ x ≤ 103) ∧ (ordersF l).length ≤ 24 := by decide +kernel
theorem kSt_sub {ps : List (Nat × Nat)} {r0 : List Nat} (nd : r0.Nodup) : ∀ i, i ≤ r0.length → ∀ x ∈ (kSt ps r0 i).1, x ∈ r0
  | 0, _ => fun x hx => nomatch hx
  | i + 1, h => fun x hx => by
    obtain ⟨h1, h2, h3, h4⟩ := kSt_ok (ps := ps) nd i (by omega)
    have hne : (kSt ps r0 i).2 ≠ [] := fun z => by
      rw [z] at h2
      simp at h2
      omega
    have hx2 : x ∈ (kSt ps r0 i).1 ++ [minL (freeF ps (kSt ps r0 i).2)] := hx
    rcases List.mem_append.mp hx2 with hx2 | hx2
    · exact kSt_sub nd i (by omega) x hx2
    · rw [List.mem_singleton] at hx2
      rw [hx2]
      exact h4 _ (free_sub _ (minL_mem (free_ne (ps := ps) hne)))
theorem kind_sub {ps : List (Nat × Nat)} {w : List Nat} : ∀ x ∈ kindF ps w, x ∈ w := fun x hx => (firsts_mem w x).mp (kSt_sub (firsts_nd w) _ (Nat.le_refl _) x hx)
theorem kind_len {ps : List (Nat × Nat)} {w : List Nat} : (kindF ps w).length ≤ w.length := by
  have h := (kSt_ok (ps := ps) (firsts_nd w) _ (Nat.le_refl _)).2.2.1
  have h2 := firsts_len w
  unfold kindF
  omega
theorem ord_mem {l x : List Nat} (h : x ∈ ordersF l) : x.length = l.length ∧ x.Nodup ∧ ∀ s ∈ x, s ∈ l := (mem_ordTo l l.length x).mp h
def kindsF (ps : List (Nat × Nat)) (l : List Nat) : List (List Nat) := ddN ((ordersF l).map (kindF ps))
section
variable {P : Program} {w : World} {K : PySem.W.Frag} {mg : Str → Option Value} {base : Heap} {f : Addr} {fd : FuncData} {k : Nat}
theorem sc40 : FnScope ["_law_company_here", "_law_letters", "_law_order"] ["_law_company_here", "_law_letters"] (defScope (top 40)) := ⟨rfl, rfl, rfl, by decide +kernel, rfl, by decide +kernel, by decide +kernel⟩
def spKds : Sp := fun vs H Q _ => ∃ x y c l, vs = [x, y] ∧ rCo H x c ∧ rX H y l ∧ c.2.length ≤ 6 ∧ l ∈ allSets 4 ∧ ∀ v ys H2, Ex H H2 → rL rX H2 v ys → ys.Perm (kindsF c.2 l) → Q v H2
theorem ok_kds {g1 g2 : Addr} {gd1 gd2 : FuncData} (F : Fun K "_law_kinds_of" "_law_kinds_of" (top 40) f fd) (C : Cal P w K mg base 1 "_law_orders" g1 gd1 ["_law_letters"] spOrd) (W : Cal P w K mg base 2 "_law_kind" g2 gd2 ["_law_company_here", "_law_word_here"] spKin)
    (ms : mg "sorted" = none) (mt : mg "set" = none) : FnOk P w K mg base CX0 (k + 3) f fd ["_law_company_here", "_law_letters"] spKds := by
  refine F.ok sc40 (fun vs H Q E h => ?_) (fun cdv A outer s H vs Q E hr h => ?_)
  · obtain ⟨x, y, a, b, rfl, _⟩ := h
    rfl
  obtain ⟨x, y, ⟨n, ps⟩, l, rfl, hx, hy, hps, hl, q⟩ := h
  cases hy
  obtain ⟨⟨hl4, hasc⟩, hcd, h24⟩ := sets4 l hl
  refine ⟨_, pss_one (ps_ret (pe_callB (R3.cr_sortSS rfl) (by rfl) ms boot_sorted (pa_cons (pe_callTy (R3.cr_setS rfl) (by rfl) mt (by decide +kernel) (pa_cons (pe_lc (own := [("_law_order", 2)]) (g := gName 2) (tt := tYes) rfl sc40.nd (pi_list (pe_cal C (by omega : 1 ≤ k + 2) hr (pa_cons (pv 1) pa_nil)))
      (blkOk_by (N := ["_law_company_here", "_law_letters", "_law_order"]) (sc := defScope (top 40)) (by decide +kernel)) (fun _ _ _ _ _ => pg_name (i := 2) sc40.nd rfl (.inl rfl)) (fun _ _ _ _ _ => pts_nil)
      (fun _ _ _ _ _ => pe_cal W (by omega : 2 ≤ k + 2) hr (pa_cons (pv 0) (pa_cons (pv 2) pa_nil)))) pa_nil)) pa_nil))), ?_⟩
  have hset : EvR (tCB (R3.rSetS K w) (tCons (tLc (iList K (tCall spOrd [] E0 (tCons (tVar 1) tNil))) (gName 2) tYes (tCall spKin [] E0 (tCons (tVar 0) (tCons (tVar 2) tNil))) [2]) tNil)) [some x, some (.str (tx l)), none] H (rSt w) (kindsF ps l) := by
    refine er_set (er_is (er_lc (R := rX) (S := rX) (as := ordersF l) (fun _ => true) (kindF ps) (ei_list (er_c1 (er_var (a := l) rfl rfl mn_S) ⟨hl4, hasc⟩) mn_S) mt_S (by omega) tg_name fun a z H4 e4 ha ra => ⟨rfl, fun _ _ _ q => q _ (Ex.refl _), fun _ => ?_⟩) (by rw [filt_true])) (by rw [List.length_map]; omega)
    obtain ⟨o1, o2, o3⟩ := ord_mem ha
    exact er_c2 (er_var rfl (mn_co _ _ _ _ e4 hx) mn_co) (er_var rfl ra mn_S) mn_co ⟨hps, by omega, fun s hs => hcd s (o3 s hs)⟩
  refine hset H (Ex.refl _) _ fun v H1 e1 rv => ?_
  obtain ⟨p, rfl, hp⟩ := rv
  have hkl : (kindsF ps l).length ≤ 24 := by
    have := ddN_len ((ordersF l).map (kindF ps))
    rw [List.length_map] at this
    unfold kindsF
    omega
  refine ⟨p, _, rfl, hp, by rw [List.length_map]; omega, fun ys p' hp2 _ hn => ?_⟩
  obtain ⟨l', rfl, p''⟩ := perm_img hp2
  exact q _ l' _ (e1.trans (Ex.new hn)) ⟨p', _, rfl, upd_same, by rw [List.map_map]; exact map_pd l'⟩ p''
theorem yes_t {σ : L2.St} {H : Hp} {f g : Hp → Prop} (h : f H) : tYes σ H fun b H3 => if b = true then f H3 else g H3 := by
  show (if true = true then f H else g H)
  rw [if_pos rfl]
  exact h
/-! ### _law_word -/
theorem sc41 : FnScope ["_law_row", "_law_company_here", "_law_most", "_law_at"] ["_law_row", "_law_company_here", "_law_most"] (defScope (top 41)) := ⟨rfl, rfl, rfl, by decide +kernel, rfl, by decide +kernel, by decide +kernel⟩
def spWrd (K : PySem.W.Frag) : Sp := fun vs H Q _ => ∃ (r s : Addr) (ns : List Int) (x : V) (c : Nat × List (Nat × Nat)) (m : Nat), vs = [.ref r, x, .int (m : Int)] ∧ rCo H x c ∧ 1 ≤ c.1 ∧ c.1 ≤ 4 ∧ 1 ≤ m ∧ m ≤ 100 ∧ RowOk K s ns H r ∧
  ∀ l H2, ExB r H H2 → RowOk K s ns H2 r → 1 ≤ l.length → l.length ≤ m → (∀ x ∈ l, x ∈ alph c.1) → Q (.str (tx l)) H2
theorem ok_wrd {g1 : Addr} {gd1 : FuncData} (F : Fun K "_law_word" "_law_word" (top 41) f fd) (T : Cal P w K mg base 1 "_law_taken" g1 gd1 ["_law_row", "_law_many"] (spTk K)) (mr : mg "range" = none) : FnOk P w K mg base CX0 (k + 2) f fd ["_law_row", "_law_company_here", "_law_most"] (spWrd K) := by
  refine F.ok sc41 (fun vs H Q E h => ?_) (fun cdv A outer s H vs Q E hr h => ?_)
  · obtain ⟨r, _, _, x, c, m, rfl, _⟩ := h
    rfl
  obtain ⟨r, sc, ns, x, ⟨n, ps⟩, m, rfl, hx, hn1, hn4, hm1, hm2, hrow, q⟩ := h
  change 1 ≤ n at hn1
  change n ≤ 4 at hn4
  refine ⟨_, pss_one (ps_ret (pe_join pe_str (pe_lc (own := [("_law_at", 3)]) (g := gName 3) (tt := tYes) rfl sc41.nd (pi_range1 (by rfl) mr (pa_cons (pe_op op_add pe_int (pe_cal T (Nat.le_add_left 1 k) hr (pa_cons (pv 0) (pa_cons (pv 2) pa_nil)))) pa_nil))
      (blkOk_by (N := ["_law_row", "_law_company_here", "_law_most", "_law_at"]) (sc := defScope (top 41)) (by decide +kernel)) (fun _ _ _ _ _ => pg_name (i := 3) sc41.nd rfl (.inl rfl)) (fun _ _ _ _ _ => pts_nil)
      (fun _ _ _ _ _ => pe_ix ix_str pe_str (pe_cal T (Nat.le_add_left 1 k) hr (pa_cons (pv 0) (pa_cons (pe_ix (r := rIxT K) ix_tup (pv 1) pe_int (fun _ _ => rfl)) pa_nil))) (fun _ _ => rfl))))), ?_⟩
  refine ⟨⟨_, rfl⟩, _, rfl, _, rfl, r, sc, ns, m, rfl, hm1, by omega, hrow, fun j H1 hj eb1 ro1 => ⟨1, (j : Int), rfl, rfl, (1 + (j : Int)), rfl, by omega, by omega, fun D hD => ?_⟩⟩
  obtain ⟨xs0, hx0⟩ := hrow.lst
  obtain ⟨xs1, hx1⟩ := ro1.lst
  have hDr : D ≠ r := fun z => by
    rw [z, hx1] at hD
    cases hD
  have hx2 : rCo H1 x (n, ps) := mt_co _ _ _ _ (eb1.tp hx0) hx
  refine lc_it (walk_range (lo := 0) (n := (1 + (j : Int)).toNat)) (fun i H' => ExB r H1 H' ∧ RowOk K sc ns H' r ∧ ∃ acc ws, H' D = some (.lst acc) ∧ Paired (rC H') acc ws ∧ ws.length = i ∧ ∀ x ∈ ws, x ∈ alph n) ⟨ExB.of (Ex.new hD), ro1.ex (Ex.new hD), [], [], upd_same, .nil, rfl, fun x hx => nomatch hx⟩
    (fun _ _ _ _ => trivial) (fun i z H' H'' hi pp yy => ?_) fun H' pp => ?_
  · obtain ⟨rfl, rfl⟩ := yy
    obtain ⟨b1, b2, acc, ws, b3, b4, b5, b6⟩ := pp
    have hx3 : rCo H'' x (n, ps) := mt_co _ _ _ _ (b1.tp hx1) hx2
    obtain ⟨pa, u1, u2, rfl, hpa, hu1, hu2⟩ := hx3
    cases hu1
    refine ⟨rfl, ?_⟩
    refine yes_t ?_
    refine ⟨_, rfl, _, rfl, pa, _, 0, _, rfl, rfl, st_of hpa, rfl, r, sc, ns, n, rfl, hn1, by omega, b2, fun j2 H5 hj2 eb5 ro5 => ⟨("abcdefg" : Str), (j2 : Int), 97 + j2, rfl, rfl, by decide +kernel, ?_, acc, eb5 _ _ hDr b3, sz_lt (by rw [b4.length, b5]; omega), ?_, RowOk.mut ro1 hD ro5, acc ++ [.str ⟨#[97 + j2]⟩], ws ++ [97 + j2], upd_same, ?_, by rw [List.length_append, b5]; rfl, fun x hx => ?_⟩⟩
    · rw [ab7]
      exact atI_nat (by simpa using alph_get (n := 7) (i := j2) (by omega))
    · exact fun a o ha h4 => by
        have hne : a ≠ D := fun z => by rw [z, hD] at h4; cases h4
        rw [upd_ne hne]
        exact eb5 _ _ ha (b1 _ _ ha h4)
    · exact pd_append (Paired.mapP b4 fun x y h => h) (.cons rfl .nil)
    · rcases List.mem_append.mp hx with hx | hx
      · exact b6 x hx
      · rw [List.mem_singleton] at hx
        rw [hx]
        exact mem_alph.mpr ⟨by omega, by omega⟩
  · obtain ⟨b1, b2, acc, ws, b3, b4, b5, b6⟩ := pp
    have hwl : ws.length = 1 + j := by omega
    have b4' := pd_map b4
    refine ⟨⟨#[]⟩, D, ws.map fun c => ⟨#[c]⟩, rfl, rfl, .inl (sq_of (by rw [b3, b4', List.map_map]; rfl)), ?_, ?_⟩
    · have hs : ∀ l : List Nat, ((l.map fun c => (⟨#[c]⟩ : Str)).map (·.length)).sum = l.length := by
        intro l
        induction l with
        | nil => rfl
        | cons c l ih =>
          rw [List.map_cons, List.map_cons, List.sum_cons, ih, List.length_cons]
          show 1 + l.length = l.length + 1
          omega
      rw [hs]
      show ws.length + (ws.map fun c => (⟨#[c]⟩ : Str)).length * 0 ≤ 16777216
      omega
    · rw [join_tx]
      exact q ws H' (eb1.trans b1) b2 (by omega) (by omega) b6
end
end F1
set_option Elab.async false
set_option linter.all false
set_option maxRecDepth 100000
set_option maxHeartbeats 1000000
namespace F1
open PySem PySem.Spec PyProof.Rows L2 Evl
/-! ### _law_alike -/
/-- a scalar and its type -/
inductive Sc : V → String → Prop where
  | bl (b : Bool) : Sc (.bl b) "bool"
  | int (i : Int) : Sc (.int i) "int"
  | str (x : Str) : Sc (.str x) "str"
  | non : Sc .non "NoneType"
theorem Sc.ty {K : PySem.W.Frag} {H : Hp} {v : V} {n : String} (h : Sc v n) : TyX K H v (.type n) := by
  cases h with
  | bl b => exact .base (.bl b)
  | int i => exact .base (.int i)
  | str x => exact .base (.str x)
  | non => exact .base .non
theorem Sc.scal {v : V} {n : String} (h : Sc v n) : scal v v = true := by cases h <;> rfl
theorem Sc.kStr {K : PySem.W.Frag} {v : V} {n : String} (h : Sc v n) : PySem.W.kitOne K (.type n) (.type "str") = some (decide (n = "str")) := by
  cases h <;> exact kit_ty (by decide +kernel)
theorem Sc.kInt {K : PySem.W.Frag} {v : V} {n : String} (h : Sc v n) : PySem.W.kitOne K (.type n) (.type "int") = some (decide (n = "int") || decide (n = "bool")) := by
  cases h <;> exact kit_ty (by decide +kernel)
theorem Sc.kBool {K : PySem.W.Frag} {v : V} {n : String} (h : Sc v n) : PySem.W.kitOne K (.type n) (.type "bool") = some (decide (n = "bool")) := by
  cases h <;> exact kit_ty (by decide +kernel)
theorem Sc.kSeq {K : PySem.W.Frag} {v : V} {n : String} (h : Sc v n) : PySem.W.kitAny K (.type n) [.type "tuple", .type "list"] = some false := by
  refine kitAny_cons (b := false) ?_ (fun _ => kitAny_cons (b := false) ?_ (fun _ => kitAny_nil) (fun z => nomatch z)) (fun z => nomatch z)
  · cases h <;> exact kit_ty (by decide +kernel)
  · cases h <;> exact kit_ty (by decide +kernel)
theorem Sc.none {v : V} {n : String} (h : Sc v n) : decide (v = .non) = decide (n = "NoneType") := by
  cases h <;> rfl
theorem Sc.rest {v : V} {n : String} (h : Sc v n) (h1 : (decide (v = .non) || decide (n = "str")) = false) : (decide (n = "int") || decide (n = "bool")) = true := by
  cases h
  · rfl
  · rfl
  · simp at h1
  · simp at h1
theorem dec_self {α : Type} [DecidableEq α] (a : α) : decide (a = a) = true := decide_eq_true rfl
section
variable {P : Program} {w : World} {K : PySem.W.Frag} {mg : Str → Option Value} {base : Heap} {f : Addr} {fd : FuncData} {k : Nat}
theorem sc42 : FnScope ["_law_found", "_law_due", "_law_k"] ["_law_found", "_law_due"] (defScope (top 42)) := ⟨rfl, rfl, rfl, by decide +kernel, rfl, by decide +kernel, by decide +kernel⟩
def spAli : Sp := fun vs H Q _ => ∃ v n, vs = [v, v] ∧ Sc v n ∧ ∀ H2, Ex H H2 → Q (.bl true) H2
theorem ok_ali (F : Fun K "_law_alike" "_law_alike" (top 42) f fd) (mi : mg "isinstance" = none) (mt : mg "tuple" = none) (ml : mg "list" = none) (ms : mg "str" = none) (mn : mg "int" = none) (mb : mg "bool" = none) : FnOk P w K mg base CX0 (k + 1) f fd ["_law_found", "_law_due"] spAli := by
  refine F.ok sc42 (fun vs H Q E h => ?_) (fun cdv A outer s H vs Q E hr h => ?_)
  · obtain ⟨v, n, rfl, _⟩ := h
    rfl
  obtain ⟨v, n, rfl, hS, q⟩ := h
  refine ⟨_, pss_cons (ps_if (pt_val (pe_callB call_isiT (by rfl) mi boot_isinstance (pa_cons (pv 1) (pa_cons (pe_tup (pa_cons (pe_bltn (v := .ty "tuple") (u := .type "tuple") (by rfl) mt (by decide +kernel) rfl) (pa_cons (pe_bltn (v := .ty "list") (u := .type "list") (by rfl) ml (by decide +kernel) rfl) pa_nil))) pa_nil)))) pss_never pss_nil)
    (pss_cons (ps_if (pw_or (pt_cmpR op_isN1 (pv 1) pe_non (nomark _)) (pw_or1 (pt_val (pe_callB call_isi (by rfl) mi boot_isinstance (pa_cons (pv 1) (pa_cons (pe_bltn (v := .ty "str") (u := .type "str") (by rfl) ms (by decide +kernel) rfl) pa_nil)))))).pt
      (pss_one (ps_ret (pe_and (pe_cmpR op_eq (pv 0) (pv 1) (nomark _)) (pe_one (pe_cmpR op_eq (pe_callB call_isi (by rfl) mi boot_isinstance (pa_cons (pv 0) (pa_cons (pe_bltn (v := .ty "str") (u := .type "str") (by rfl) ms (by decide +kernel) rfl) pa_nil)))
        (pe_callB call_isi (by rfl) mi boot_isinstance (pa_cons (pv 1) (pa_cons (pe_bltn (v := .ty "str") (u := .type "str") (by rfl) ms (by decide +kernel) rfl) pa_nil))) (nomark _)))))) pss_nil)
    (pss_one (ps_ret (pe_and (pe_callB call_isi (by rfl) mi boot_isinstance (pa_cons (pv 0) (pa_cons (pe_bltn (v := .ty "int") (u := .type "int") (by rfl) mn (by decide +kernel) rfl) pa_nil)))
      (pe_and (pe_cmpR op_eq (pe_callB call_isi (by rfl) mi boot_isinstance (pa_cons (pv 0) (pa_cons (pe_bltn (v := .ty "bool") (u := .type "bool") (by rfl) mb (by decide +kernel) rfl) pa_nil)))
        (pe_callB call_isi (by rfl) mi boot_isinstance (pa_cons (pv 1) (pa_cons (pe_bltn (v := .ty "bool") (u := .type "bool") (by rfl) mb (by decide +kernel) rfl) pa_nil))) (nomark _)) (pe_one (pe_cmpR op_eq (pv 0) (pv 1) (nomark _)))))))), ?_⟩
  refine ⟨_, rfl, (by show 2 ≤ 16777216; omega), fun p hp => ⟨v, p, [.ty "tuple", .ty "list"], .type n, [.type "tuple", .type "list"], false, rfl, upd_same, .cons (.ty _) (.cons (.ty _) .nil), hS.ty, hS.kSeq, false, rfl, ?_⟩⟩
  refine iteF ?_
  show tSeq _ _ _ [some v, some v, none] (upd H p (.tup [.ty "tuple", .ty "list"]))
  have e0 : Ex H (upd H p (.tup [.ty "tuple", .ty "list"])) := Ex.new hp
  generalize upd H p (.tup [.ty "tuple", .ty "list"]) = H0 at e0 ⊢
  have isi : ∀ {i : Nat} {m : String} {b : Bool} {H1 : Hp}, ([some v, some v, none] : L2.St)[i]? = some (some v) → PySem.W.kitOne K (.type n) (.type m) = some b → Ev (tCB (rIsi K) (tCons (tVar i) (tCons (tC (.ty m)) tNil))) [some v, some v, none] H1 (.bl b) := fun h1 h2 => ev_isi (ev_var h1) (fun H1 _ => hS.ty) h2
  refine q_if (et_or (et_isN (ev_var (v := v) rfl)) fun _ => et_B (isi rfl hS.kStr)) (fun _ H1 e1 => ?_) fun hb H1 e1 => ?_
  · refine s_ret (ev_is (ev_andV (ev_op (ev_var (v := v) rfl) (ev_var (v := v) rfl) (rv_eq hS.scal)) fun _ => ev_op (isi rfl hS.kStr) (isi rfl hS.kStr) (rv_eq rfl)) ?_) fun H2 e2 => q H2 ((e0.trans e1).trans e2)
    rw [dec_self, dec_self]
    rfl
  · refine s_ret (ev_is (ev_andV (isi rfl hS.kInt) fun _ => ev_andV (ev_op (isi rfl hS.kBool) (isi rfl hS.kBool) (rv_eq rfl)) fun _ => ev_op (ev_var (v := v) rfl) (ev_var (v := v) rfl) (rv_eq hS.scal)) ?_) fun H2 e2 => q H2 ((e0.trans e1).trans e2)
    rw [hS.rest hb, dec_self, dec_self]
    rfl
/-! ### _law_all_words -/
def wrdStep (l : List Nat) (rows : List (List Nat)) : List (List Nat) := rows.foldl (fun acc t => acc ++ l.map fun s => t ++ [s]) []
def wrdTo (l : List Nat) : Nat → List (List Nat)
  | 0 => [[]]
  | i + 1 => wrdStep l (wrdTo l i)
theorem wrd_fold (l : List Nat) : ∀ (rows acc : List (List Nat)), rows.foldl (fun acc t => acc ++ l.map fun s => t ++ [s]) acc = acc ++ wrdStep l rows
  | [], acc => by simp [wrdStep]
  | t :: rows, acc => by
    unfold wrdStep
    rw [List.foldl_cons, List.foldl_cons, wrd_fold l rows, wrd_fold l rows, List.nil_append, List.append_assoc]
theorem wrdStep_cons (l t : List Nat) (rows : List (List Nat)) : wrdStep l (t :: rows) = (l.map fun s => t ++ [s]) ++ wrdStep l rows := by
  show (t :: rows).foldl _ [] = _
  rw [List.foldl_cons, wrd_fold, List.nil_append]
theorem wrdStep_len (l : List Nat) : ∀ rows : List (List Nat), (wrdStep l rows).length = l.length * rows.length
  | [] => by simp [wrdStep]
  | t :: rows => by
    rw [wrdStep_cons, List.length_append, List.length_map, wrdStep_len l rows, List.length_cons, Nat.mul_succ]
    omega
theorem mem_wrdStep (l : List Nat) : ∀ (rows : List (List Nat)) (x : List Nat), x ∈ wrdStep l rows ↔ ∃ t s, t ∈ rows ∧ s ∈ l ∧ x = t ++ [s]
  | [], x => by simp [wrdStep]
  | t :: rows, x => by
    rw [wrdStep_cons, List.mem_append, mem_wrdStep l rows x]
    constructor
    · rintro (h | ⟨t', s, h1, h2, h4⟩)
      · obtain ⟨s, hs, rfl⟩ := List.mem_map.mp h
        exact ⟨t, s, by simp, hs, rfl⟩
      · exact ⟨t', s, List.mem_cons_of_mem _ h1, h2, h4⟩
    · rintro ⟨t', s, h1, h2, rfl⟩
      rcases List.mem_cons.mp h1 with rfl | h1
      · exact .inl (List.mem_map.mpr ⟨s, h2, rfl⟩)
      · exact .inr ⟨t', s, h1, h2, rfl⟩
theorem mem_wrdTo (l : List Nat) : ∀ (i : Nat) (x : List Nat), x ∈ wrdTo l i → x.length = i ∧ ∀ s ∈ x, s ∈ l
  | 0, x, h => by
    have : x = [] := List.mem_singleton.mp h
    subst this
    exact ⟨rfl, fun s hs => nomatch hs⟩
  | i + 1, x, h => by
    obtain ⟨t, s, h1, h2, rfl⟩ := (mem_wrdStep l _ x).mp h
    obtain ⟨a, b⟩ := mem_wrdTo l i t h1
    refine ⟨by rw [List.length_append, a]; rfl, fun u hu => ?_⟩
    rcases List.mem_append.mp hu with hu | hu
    · exact b u hu
    · rw [List.mem_singleton] at hu
      rw [hu]
      exact h2
theorem wrdTo_len {l : List Nat} (h : l.length ≤ 4) : ∀ i, (wrdTo l i).length ≤ 4 ^ i
  | 0 => Nat.le_refl _
  | i + 1 => by
    have h1 := wrdTo_len h i
    show (wrdStep l (wrdTo l i)).length ≤ 4 ^ (i + 1)
    rw [wrdStep_len, Nat.pow_succ]
    have h3 : l.length * (wrdTo l i).length ≤ 4 * (wrdTo l i).length := Nat.mul_le_mul_right _ h
    omega
theorem wrdTo_256 {l : List Nat} (h : l.length ≤ 4) {i : Nat} (hi : i ≤ 4) : (wrdTo l i).length ≤ 256 := Nat.le_trans (wrdTo_len h i) (Nat.le_trans (Nat.pow_le_pow_right (by omega) hi) (by decide))
theorem sc43 : FnScope ["_law_company_here", "_law_length", "_law_rows", "_law_turn", "_law_longer", "_law_word_here", "_law_sign"] ["_law_company_here", "_law_length"] (defScope (top 43)) := ⟨rfl, rfl, rfl, by decide +kernel, rfl, by decide +kernel, by decide +kernel⟩
abbrev spAlw : Sp := sp2 rCo rN (fun c m => c.1 ≤ 4 ∧ m ≤ 4) (rL rX) fun c m => wrdTo (alph c.1) m
theorem ok_alw (F : Fun K "_law_all_words" "_law_all_words" (top 43) f fd) (mr : mg "range" = none) : FnOk P w K mg base CX0 (k + 1) f fd ["_law_company_here", "_law_length"] spAlw := by
  refine F.ok sc43 (fun vs H Q E h => ?_) (fun cdv A outer s H vs Q E hr h => ?_)
  · obtain ⟨x, y, a, b, rfl, _⟩ := h
    rfl
  obtain ⟨x, y, ⟨n, ps⟩, m, rfl, hx, hy, ⟨hn, hm⟩, q⟩ := h
  cases hy
  change n ≤ 4 at hn
  refine ⟨_, pss_cons (ps_set (i := 2) sc43.nd rfl (.inl rfl) (pe_lst (pa_cons pe_str pa_nil)))
    (pss_cons (ps_for PassesOwn.never rfl (pi_range1 (by rfl) mr (pa_cons (pv 1) pa_nil)) (pg_name (i := 3) sc43.nd rfl (.inl rfl))
      (pss_cons (ps_set (i := 4) sc43.nd rfl (.inl rfl) (pe_lst pa_nil))
      (pss_cons (ps_for PassesOwn.never rfl (pi_list (pv 2)) (pg_name (i := 5) sc43.nd rfl (.inr rfl))
        (pss_one (ps_set (i := 4) sc43.nd rfl (.inl rfl) (pe_op op_cat (pv 4) (pe_lc (own := [("_law_sign", 6)]) (g := gName 6) (tt := tYes) rfl sc43.nd (pi_str (pe_slice sl_str pe_str po_none (po_some (pe_ix ix_tup (pv 0) pe_int (fun _ _ => rfl)))))
          (blkOk_by (N := ["_law_company_here", "_law_length", "_law_rows", "_law_turn", "_law_longer", "_law_word_here", "_law_sign"]) (sc := defScope (top 43)) (by decide +kernel)) (fun _ _ _ _ _ => pg_name (i := 6) sc43.nd rfl (.inl rfl))
          (fun _ _ _ _ _ => pts_nil) (fun _ _ _ _ _ => pe_op op_add_str (pv 5) (pv 6)))))))
      (pss_one (ps_set (i := 2) sc43.nd rfl (.inl rfl) (pv 4))))))
    (pss_one (ps_ret (pv 2)))), ?_⟩
  have hal := alph_len n
  refine r_set (R := rL rX) (a := [[]]) (er_lst1 (R := rX) (er_ev (f := fun l => V.str (tx l)) (a := []) ev_c) mn_S) fun v0 H1 e1 r1 => ?_
  refine r_forN (R := rN) (as := List.range m) (fun i σ' H' => Ex H H' ∧ ∃ v y3 y4 y5 y6, σ' = [some x, some (.int (m : Int)), some v, y3, y4, y5, y6] ∧ rL rX H' v (wrdTo (alph n) i)) (ei_rng (ea_cons (ev_var rfl) ea_nil) (by omega)) tg_name (fun H2 e2 => ⟨e1.trans e2, v0, _, _, _, _, rfl, mn_L mn_S _ _ _ _ e2 r1⟩)
    (fun H2 e2 i a z σ' H' e3 ha ra hP => ?_) (fun i σ' H' H'' e h => ?_) fun σ' H' e2 hP => ?_
  · obtain ⟨eH, v, y3, y4, y5, y6, rfl, rv⟩ := hP
    cases ra
    have hil : i < m := by
      have := (List.getElem?_eq_some_iff.mp ha).1
      simpa using this
    have h256 := wrdTo_256 (l := alph n) (by omega) (show i ≤ 4 by omega)
    have hrow : ∀ t ∈ wrdTo (alph n) i, t.length ≤ 4 := fun t ht => by
      have := (mem_wrdTo _ i t ht).1
      omega
    refine r_set (R := rL rX) (a := []) er_lst0 fun v3 H4 e4 r4 => ?_
    refine r_forN (R := rX) (as := wrdTo (alph n) i) (fun j σ' H' => Ex H H' ∧ ∃ v3 y5 y6, σ' = [some x, some (.int (m : Int)), some v, some (.int (a : Int)), some v3, y5, y6] ∧ rL rX H' v (wrdTo (alph n) i) ∧ rL rX H' v3 (wrdStep (alph n) ((wrdTo (alph n) i).take j))) (ei_list (er_var rfl (mn_L mn_S _ _ _ _ e4 rv) (mn_L mn_S)) mn_S) tg_name
      (fun H5 e5 => ⟨(eH.trans e4).trans e5, v3, _, _, rfl, mn_L mn_S _ _ _ _ (e4.trans e5) rv, mn_L mn_S _ _ _ _ e5 r4⟩) (fun H5 e5 j t z σ' H' e6 ht rt hP => ?_) (fun j σ' H' H'' e h => ?_) fun σ' H' e5 hP => ?_
    · obtain ⟨eH2, v3, y5, y6, rfl, rv1, rv3⟩ := hP
      cases rt
      have ht4 := hrow t (List.mem_of_getElem? ht)
      have hjl : j < (wrdTo (alph n) i).length := (List.getElem?_eq_some_iff.mp ht).1
      have hol := wrdStep_len (alph n) ((wrdTo (alph n) i).take j)
      rw [List.length_take] at hol
      have hol2 : (alph n).length * min j (wrdTo (alph n) i).length ≤ 4 * 256 := Nat.mul_le_mul (by omega) (by omega)
      have hsnoc : wrdStep (alph n) ((wrdTo (alph n) i).take (j + 1)) = wrdStep (alph n) ((wrdTo (alph n) i).take j) ++ (alph n).map fun s => t ++ [s] := by
        rw [List.take_add_one, ht]
        show ((wrdTo (alph n) i).take j ++ [t]).foldl _ [] = _
        rw [List.foldl_append]
        rfl
      rw [hsnoc]
      refine r_set1 (R := rL rX) (er_cat (er_var rfl rv3 (mn_L mn_S)) (er_is (er_lc (R := rC) (S := rX) (as := alph n) (fun s => true) (fun s => t ++ [s]) (ei_str (er_alph ev_c (fun H6 e6 => ev_vr (er_fst (er_var rfl (mn_co _ _ _ _ (eH2.trans e6) hx) mn_co) mn_S fun _ _ => ev_c) rfl) (by omega))) mt_S (by omega) tg_name
        fun b z H7 e7 hb rb => ⟨rfl, fun _ _ _ q => q _ (Ex.refl _), fun _ => ?_⟩) (by rw [filt_true])) mn_S ?_) fun v4 H7 e7 r7 => ⟨e6.trans e7, eH2.trans e7, v4, _, _, rfl, mn_L mn_S _ _ _ _ e7 rv1, r7⟩
      · cases rb
        exact er_catX (er_var (a := t) rfl rfl mn_S) (er_var (R := rX) (a := [b]) rfl rfl mn_S) (by simp; omega) fun i j H1 Q h1 h2 => ⟨i, j, rfl, rfl, h1, h2⟩
      · rw [List.length_map]
        omega
    · obtain ⟨eH2, v3, y5, y6, rfl, rv1, rv3⟩ := h
      exact ⟨eH2.trans e, v3, y5, y6, rfl, mn_L mn_S _ _ _ _ e rv1, mn_L mn_S _ _ _ _ e rv3⟩
    · obtain ⟨eH2, v3, y5, y6, rfl, rv1, rv3⟩ := hP
      rw [List.take_length] at rv3
      exact r_set1 (R := rL rX) (er_var rfl rv3 (mn_L mn_S)) fun v4 H7 e7 r7 => ⟨((e3.trans e4).trans e5).trans e7, eH2.trans e7, v4, _, _, _, _, rfl, r7⟩
  · obtain ⟨eH, v, y3, y4, y5, y6, rfl, rv⟩ := h
    exact ⟨eH.trans e, v, y3, y4, y5, y6, rfl, mn_L mn_S _ _ _ _ e rv⟩
  · obtain ⟨eH, v, y3, y4, y5, y6, rfl, rv⟩ := hP
    rw [List.length_range] at rv
    exact r_ret (er_var rfl rv (mn_L mn_S)) fun v2 H3 e3 r3 => q v2 H3 (eH.trans e3) r3
/-! ### _law_sets, _law_lots -/
theorem sc44 : FnScope ["_law_many", "_law_found", "_law_place", "_law_told"] ["_law_many"] (defScope (top 44)) := ⟨rfl, rfl, rfl, by decide +kernel, rfl, by decide +kernel, by decide +kernel⟩
abbrev spSts : Sp := sp1 rN (fun n => n ≤ 4) (rL (rT rN)) fun n => setsK (List.range n)
theorem er_catT {σ : L2.St} {H : Hp} {ta tb : TE} {u v : List Nat} (h1 : EvR ta σ H (rT rN) u) (h2 : EvR tb σ H (rT rN) v) (hz : u.length + v.length ≤ 1000) : EvR (tOp (rCatA K) ta tb) σ H (rT rN) (u ++ v) :=
  er_op h1 h2 (mn_T mn_S) fun x y H1 e rx ry Q q => by
    obtain ⟨p, us, rfl, hp, hu⟩ := rx
    obtain ⟨p', us', rfl, hp', hu'⟩ := ry
    refine ⟨p, p', us, us', rfl, rfl, st_of hp, st_of hp', sz4 (by rw [hu.length, hu'.length]; omega), fun e0 => ?_, fun _ e0 => ?_, fun _ _ l hl => ?_⟩
    · subst e0
      cases hu
      exact q _ _ (Ex.refl _) ⟨p', us', rfl, hp', hu'⟩
    · subst e0
      cases hu'
      rw [List.append_nil] at q
      exact q _ _ (Ex.refl _) ⟨p, us, rfl, hp, hu⟩
    · exact q _ _ (Ex.new hl) ⟨l, us ++ us', rfl, upd_same, pd_append hu hu'⟩
theorem ok_sts (F : Fun K "_law_sets" "_law_sets" (top 44) f fd) (mr : mg "range" = none) : FnOk P w K mg base CX0 (k + 1) f fd ["_law_many"] spSts := by
  refine F.ok sc44 (fun vs H Q E h => ?_) (fun cdv A outer s H vs Q E hr h => ?_)
  · obtain ⟨x, a, rfl, _⟩ := h
    rfl
  obtain ⟨x, n, rfl, hx, hn, q⟩ := h
  cases hx
  refine ⟨_, pss_cons (ps_set (i := 1) sc44.nd rfl (.inl rfl) (pe_lst (pa_cons (pe_tup pa_nil) pa_nil)))
    (pss_cons (ps_for PassesOwn.never rfl (pi_range1 (by rfl) mr (pa_cons (pv 0) pa_nil)) (pg_name (i := 2) sc44.nd rfl (.inr rfl))
      (pss_one (ps_set (i := 1) sc44.nd rfl (.inl rfl) (pe_op op_cat (pv 1) (pe_lc (own := [("_law_told", 3)]) (g := gName 3) (tt := tYes) rfl sc44.nd (pi_list (pv 1)) (blkOk_by (N := ["_law_many", "_law_found", "_law_place", "_law_told"]) (sc := defScope (top 44)) (by decide +kernel))
        (fun _ _ _ _ _ => pg_name (i := 3) sc44.nd rfl (.inl rfl)) (fun _ _ _ _ _ => pts_nil) (fun _ _ _ _ _ => pe_op (r := rCatA K) op_catA (pv 3) (pe_tup (pa_cons (pv 2) pa_nil))))))))
    (pss_one (ps_ret (pv 1)))), ?_⟩
  refine r_set (R := rL (rT rN)) (a := [[]]) (er_lst1 (R := rT rN) er_tup0 (mn_T mn_S)) fun v0 H1 e1 r1 => ?_
  refine r_forN (R := rN) (as := List.range n) (fun i σ' H' => ∃ v y2 y3, σ' = [some (.int (n : Int)), some v, y2, y3] ∧ rL (rT rN) H' v (setsK ((List.range n).take i))) (ei_rng (ea_cons (ev_var rfl) ea_nil) (by omega)) tg_name (fun H2 e2 => ⟨v0, _, _, rfl, mn_L (mn_T mn_S) _ _ _ _ e2 r1⟩)
    (fun H2 e2 i a x σ' H' e3 ha ra hP => ?_) (fun i σ' H' H'' e h => ?_) fun σ' H' e2 hP => ?_
  · obtain ⟨v, y2, y3, rfl, rv⟩ := hP
    cases ra
    have hlt : ((List.range n).take i).length ≤ 4 := by
      rw [List.length_take, List.length_range]
      omega
    have h16 := setsK_16 hlt
    have hm := (setsK_le 4 _ hlt).2
    refine r_set1 (R := rL (rT rN)) (a := setsK ((List.range n).take i) ++ ((setsK ((List.range n).take i)).filter fun _ => true).map (· ++ [a])) (er_cat (er_var rfl rv (mn_L (mn_T mn_S))) (er_lc (R := rT rN) (S := rT rN) (fun _ => true) (· ++ [a]) (ei_list (er_var rfl rv (mn_L (mn_T mn_S))) (mn_T mn_S)) (mt_T mt_S) (by omega) tg_name fun b z H4 e4 hb rb => ⟨rfl, fun _ _ _ q => q _ (Ex.refl _), fun _ =>
      er_catT (er_var rfl rb (mn_T mn_S)) (er_one (er_var (R := rN) (a := a) rfl rfl mn_S) mn_S) (by have := hm b hb; simp; omega)⟩) (mn_T mn_S) ?_) fun v2 H4 e4 r4 => ⟨e3.trans e4, v2, _, _, rfl, ?_⟩
    · rw [List.length_map]
      have := List.length_filter_le (fun _ => true) (setsK ((List.range n).take i))
      omega
    · rw [List.take_add_one, ha]
      show rL (rT rN) H4 v2 (setsK ((List.range n).take i ++ [a]))
      rw [setsK_snoc]
      rw [filt_true] at r4
      exact r4
  · obtain ⟨v, y2, y3, rfl, rv⟩ := h
    exact ⟨v, y2, y3, rfl, mn_L (mn_T mn_S) _ _ _ _ e rv⟩
  · obtain ⟨v, y2, y3, rfl, rv⟩ := hP
    rw [List.take_length] at rv
    exact r_ret (er_var rfl rv (mn_L (mn_T mn_S))) fun v2 H3 e3 r3 => q v2 H3 ((e1.trans e2).trans e3) r3
theorem sc45 : FnScope ["_law_many", "_law_places", "_law_at"] ["_law_many"] (defScope (top 45)) := ⟨rfl, rfl, rfl, by decide +kernel, rfl, by decide +kernel, by decide +kernel⟩
def outSc : Scope := match defBody (top 45) with
  | [.Return (some (.ListComp _ _ sc _)) _] => sc
  | _ => { kind := .function, names := [], isGenerator := false, isCoroutine := false }
def lotsF (n : Nat) : List (List Nat) := (setsK (List.range n)).map fun t => t.map (97 + ·)
abbrev spLot : Sp := sp1 rN (fun n => n ≤ 4) (rL rX) lotsF
theorem lots_all : ∀ n, n ≤ 4 → lotsF n = allSets n
  | 0, _ => by decide +kernel
  | 1, _ => by decide +kernel
  | 2, _ => by decide +kernel
  | 3, _ => by decide +kernel
  | 4, _ => by decide +kernel
  | n + 5, h => by omega
theorem sets_places : ∀ n, n ≤ 4 → ∀ t ∈ setsK (List.range n), t.length ≤ 4 ∧ ∀ a ∈ t, a < 4
  | 0, _ => by decide +kernel
  | 1, _ => by decide +kernel
  | 2, _ => by decide +kernel
  | 3, _ => by decide +kernel
  | 4, _ => by decide +kernel
  | n + 5, h => by omega
/-- a text's join of a list, the written part named -/
def rJoinK (K : PySem.W.Frag) : V → List V → Hp → VK → Prop := fun x xs H Q => ∃ a p, ∃ ys : List Str, x = .str a ∧ xs = [.ref p] ∧ (SqL K H p (ys.map V.str) ∨ SqT K H p (ys.map V.str)) ∧ (ys.map (·.length)).sum + ys.length * a.length ≤ 16777216 ∧ Q (.str (Txt.join a ys)) H
theorem pe_joinK {X : Cx} {K : PySem.W.Frag} (hK : X.K = K) {o e : Expr} {to te : TE} {apos pos : Pos} (ho : PE X o to) (he : PE X e te) (hs : starEach [e] X.env = [(false, eval e X.env)] := by rfl) (hbase : attributeBase o "join" X.env (eval o X.env) = eval o X.env := by rfl) (hline : (apos.endLine == pos.line) = true := by rfl) :
    PE X (.Call (.Attribute o "join" apos) [e] [] pos) (tM1 (rJoinK K) to te) := by
  subst hK
  exact pe_join ho he hs hbase hline
theorem ok_lot {g1 : Addr} {gd1 : FuncData} (F : Fun K "_law_lots" "_law_lots" (top 45) f fd) (S : Cal P w K mg base 1 "_law_sets" g1 gd1 ["_law_many"] spSts) : FnOk P w K mg base CX0 (k + 2) f fd ["_law_many"] spLot := by
  refine F.ok sc45 (fun vs H Q E h => ?_) (fun cdv A outer s H vs Q E hr h => ?_)
  · obtain ⟨x, a, rfl, _⟩ := h
    rfl
  obtain ⟨x, n, rfl, hx, hn, q⟩ := h
  cases hx
  refine ⟨_, pss_one (ps_ret (pe_lc (own := [("_law_places", 1)]) (g := gName 1) (tt := tYes) rfl sc45.nd (pi_list (pe_cal S (Nat.le_add_left 1 k) hr (pa_cons (pv 0) pa_nil))) (blkOk_by (N := ["_law_many", "_law_places", "_law_at"]) (sc := defScope (top 45)) (by decide +kernel))
    (fun _ _ _ _ _ => pg_name (i := 1) sc45.nd rfl (.inl rfl)) (fun _ _ _ _ _ => pts_nil)
    (fun _ _ _ _ _ => pe_joinK (K := K) rfl pe_str (pe_lc (own := [("_law_at", 2)]) (g := gName 2) (tt := tYes) (wi := iTup K (tVar 1)) rfl sc45.nd (pi_tup (pv 1)) (blkOk_by (N := ["_law_many", "_law_places", "_law_at"]) (sc := relS outSc (defScope (top 45))) (by decide +kernel))
      (fun _ _ _ _ _ => pg_name (i := 2) sc45.nd rfl (.inl rfl)) (fun _ _ _ _ _ => pts_nil) (fun _ _ _ _ _ => pe_ix ix_str pe_str (pv 2) (fun _ _ => rfl)))))), ?_⟩
  refine r_ret (R := rL rX) (a := lotsF n) (er_is (er_lc (R := rT rN) (S := rX) (as := setsK (List.range n)) (fun _ => true) (fun t => t.map (97 + ·)) (ei_list (er_c1 (er_var (a := n) rfl rfl mn_S) hn) (mn_T mn_S)) mt_S ?_ tg_name fun t z H4 e4 ht rt => ⟨rfl, fun _ _ _ q => q _ (Ex.refl _), fun _ => ?_⟩) (by rw [filt_true]; rfl)) fun v H1 e1 r1 => q v H1 e1 r1
  · have := setsK_16 (l := List.range n) (by rw [List.length_range]; exact hn)
    omega
  · obtain ⟨h1, h2⟩ := sets_places n hn t ht
    refine er_join ev_c (er_is (er_lc (R := rN) (S := rC) (as := t) (fun _ => true) (fun a => 97 + a) (ei_tup (er_var rfl rt (mn_T mn_S)) mn_S) mt_S (by omega) tg_name fun a z H5 e5 ha ra => ⟨rfl, fun _ _ _ q => q _ (Ex.refl _), fun _ => er_sign ev_c (er_var rfl ra mn_S) (by have := h2 a ha; omega)⟩) (by rw [filt_true])) (by rw [List.length_map]; omega)
/-! ### _law_power -/
theorem sc46 : FnScope ["_law_base", "_law_times", "_law_found", "_law_turn"] ["_law_base", "_law_times"] (defScope (top 46)) := ⟨rfl, rfl, rfl, by decide +kernel, rfl, by decide +kernel, by decide +kernel⟩
theorem ok_lpw (F : Fun K "_law_power" "_law_power" (top 46) f fd) (mr : mg "range" = none) : FnOk P w K mg base CX0 (k + 1) f fd ["_law_base", "_law_times"] spPow := by
  refine F.ok sc46 (fun vs H Q E h => ?_) (fun cdv A outer s H vs Q E hr h => ?_)
  · obtain ⟨x, y, a, b, rfl, _⟩ := h
    rfl
  obtain ⟨x, y, b, e, rfl, hx, hy, ⟨hb, he⟩, q⟩ := h
  cases hx
  cases hy
  refine ⟨_, pss_cons (ps_set (i := 2) sc46.nd rfl (.inl rfl) pe_int) (pss_cons (ps_for PassesOwn.never rfl (pi_range1 (by rfl) mr (pa_cons (pv 1) pa_nil)) (pg_name (i := 3) sc46.nd rfl (.inl rfl))
    (pss_one (ps_set (i := 2) sc46.nd rfl (.inl rfl) (pe_op op_mulW (pv 2) (pv 0))))) (pss_one (ps_ret (pv 2)))), ?_⟩
  refine q_asg ev_c fun H1 e1 => ?_
  refine r_forN (R := rN) (as := List.range e) (fun i σ' H' => ∃ y3, σ' = [some (.int (b : Int)), some (.int (e : Int)), some (.int ((b ^ i : Nat) : Int)), y3]) (ei_rng (ea_cons (ev_var rfl) ea_nil) (by omega)) tg_name (fun _ _ => ⟨_, rfl⟩) (fun H2 e2 i a v σ' H' e3 ha ra hJ => ?_) (fun _ _ _ _ _ h => h) fun σ' H' e2 hJ => ?_
  · obtain ⟨y3, rfl⟩ := hJ
    have hi : i < e := by
      have := (List.getElem?_eq_some_iff.mp ha).1
      simpa using this
    refine s_asg (v := .int (((b ^ i : Nat) : Int) * (b : Int))) (ev_op (ev_var rfl) (ev_var rfl) (rv_I (cmulW (pow_lt hb (by omega)) (by have := pow_lt (b := 4) (e := 1) (by omega) (by omega); omega)))) fun H4 e4 => ⟨e3.trans e4, some v, ?_⟩
    show [some (V.int (b : Int)), some (.int (e : Int)), some (.int (((b ^ i : Nat) : Int) * (b : Int))), some v] = _
    rw [Nat.pow_succ, Int.natCast_mul]
  · obtain ⟨y3, rfl⟩ := hJ
    rw [List.length_range]
    exact s_ret (ev_var rfl) fun H3 e3 => q _ _ ((e1.trans e2).trans e3) rfl
end
end F1
set_option Elab.async false
set_option linter.all false
set_option maxRecDepth 1000000
set_option maxHeartbeats 0
namespace F1
/-- the sublists -/
def subs {α : Type} : List α → List (List α)
  | [] => [[]]
  | a :: r => subs r ++ (subs r).map (a :: ·)
theorem subs_mem {α : Type} : ∀ {l L : List α}, List.Sublist l L → l ∈ subs L := by
  intro l L h
  induction h with
  | slnil => simp [subs]
  | cons a h ih => exact List.mem_append_left _ ih
  | cons_cons a h ih => exact List.mem_append_right _ (List.mem_map.mpr ⟨_, ih, rfl⟩)
def compsN (n : Nat) : List (Nat × List (Nat × Nat)) := (subs (prs n)).map fun ps => (n, ps)
def comps : List (Nat × List (Nat × Nat)) := [1, 2, 3].flatMap compsN
def comps4 (b : Bool) : List (Nat × List (Nat × Nat)) := (compsN 4).filter fun c => decide ((0, 1) ∈ c.2) == b
/-- what holds of all 75 companies -/
theorem all_comps {P : Nat × List (Nat × Nat) → Prop} (h3 : ∀ c ∈ comps, P c) (h4 : ∀ c ∈ comps4 true, P c) (h5 : ∀ c ∈ comps4 false, P c) {n : Nat} {ps : List (Nat × Nat)} (h1 : 1 ≤ n) (h : n ≤ 4) (hs : List.Sublist ps (prs n)) : P (n, ps) := by
  have hm : (n, ps) ∈ compsN n := List.mem_map.mpr ⟨ps, subs_mem hs, rfl⟩
  match n, h1, h, hm with
  | 1, _, _, hm => exact h3 _ (List.mem_flatMap.mpr ⟨1, by decide, hm⟩)
  | 2, _, _, hm => exact h3 _ (List.mem_flatMap.mpr ⟨2, by decide, hm⟩)
  | 3, _, _, hm => exact h3 _ (List.mem_flatMap.mpr ⟨3, by decide, hm⟩)
  | 4, _, _, hm =>
    cases hb : decide ((0, 1) ∈ ps) with
    | true => exact h4 _ (List.mem_filter.mpr ⟨hm, by show (decide ((0, 1) ∈ ps) == true) = true; rw [hb]; rfl⟩)
    | false => exact h5 _ (List.mem_filter.mpr ⟨hm, by show (decide ((0, 1) ∈ ps) == false) = true; rw [hb]; rfl⟩)
/-- which of x, y stands first -/
def bef : List Nat → Nat → Nat → Bool
  | [], _, _ => false
  | a :: r, x, y => if Nat.beq a x = true then true else if Nat.beq a y = true then false else bef r x y
def sig (ps : List (Nat × Nat)) (p : List Nat) : List Bool := ps.map fun e => bef p (97 + e.1) (97 + e.2)
def firstOf (ps : List (Nat × Nat)) (L : List (List Nat)) (s : List Bool) : List Nat := (L.find? fun q => sig ps q == s).getD []
/-- kind p is the first order of the same friends' order -/
def KindOk (c : Nat × List (Nat × Nat)) : Prop := ∀ p ∈ ordersF (alph c.1), kindF c.2 p = firstOf c.2 (ordersF (alph c.1)) (sig c.2 p)
instance (c : Nat × List (Nat × Nat)) : Decidable (KindOk c) := by
  unfold KindOk
  infer_instance
theorem kind3 : ∀ c ∈ comps, KindOk c := by decide +kernel
theorem kind4 : ∀ c ∈ comps4 true, KindOk c := by decide +kernel
theorem kind5 : ∀ c ∈ comps4 false, KindOk c := by decide +kernel
/-- so many kinds -/
def CountOk (c : Nat × List (Nat × Nat)) : Prop := ∀ l ∈ allSets c.1, (kindsF c.2 l).length = countOf c.2 l
instance (c : Nat × List (Nat × Nat)) : Decidable (CountOk c) := by
  unfold CountOk
  infer_instance
theorem count3 : ∀ c ∈ comps, CountOk c := by decide +kernel
theorem count4 : ∀ c ∈ comps4 true, CountOk c := by decide +kernel
theorem count5 : ∀ c ∈ comps4 false, CountOk c := by decide +kernel
end F1
set_option Elab.async false
set_option linter.all false
set_option maxRecDepth 1000000
set_option maxHeartbeats 0
namespace F1
/-! ### companies are well formed -/
def OkB (c : Nat × List (Nat × Nat)) : Prop := (1 ≤ c.1 ∧ c.1 ≤ 4) ∧ c.2.length ≤ 6 ∧ (∀ p ∈ c.2, p.1 < p.2 ∧ p.2 < c.1) ∧ c.2.Pairwise fun p q => p.1 < q.1 ∨ (p.1 = q.1 ∧ p.2 < q.2)
instance (c : Nat × List (Nat × Nat)) : Decidable (OkB c) := by
  unfold OkB
  infer_instance
theorem okb3 : ∀ c ∈ comps, OkB c := by decide +kernel
theorem okb4 : ∀ c ∈ comps4 true, OkB c := by decide +kernel
theorem okb5 : ∀ c ∈ comps4 false, OkB c := by decide +kernel
theorem okC_of {c : Nat × List (Nat × Nat)} (h : OkB c) : OkC c := by
  obtain ⟨h1, h2, h3, h4⟩ := h
  refine ⟨h1, h2, h3, fun i p q hp hq => ?_⟩
  obtain ⟨hi, ep⟩ := List.getElem?_eq_some_iff.mp hp
  obtain ⟨hj, eq⟩ := List.getElem?_eq_some_iff.mp hq
  have := (List.pairwise_iff_getElem.mp h4) i (i + 1) hi hj (by omega)
  rw [ep, eq] at this
  exact this
/-! ### the shortest gathering word -/
def dueW (ps : List (Nat × Nat)) (d : Option (List Nat)) (t : List Nat) : Option (List Nat) := if decide (d = none) && gathersF ps t then some t else d
def dueL (c : Nat × List (Nat × Nat)) (d : Option (List Nat)) (m : Nat) : Option (List Nat) := (if d = none then wrdTo (alph c.1) m else []).foldl (dueW c.2) d
def dueF (c : Nat × List (Nat × Nat)) : Option (List Nat) := (List.range' 1 (c.1 - 1)).foldl (dueL c) (if countOf c.2 (alph c.1) = 1 then some [] else none)
def ShortOk (c : Nat × List (Nat × Nat)) : Prop := shortF c = dueF c
instance (c : Nat × List (Nat × Nat)) : Decidable (ShortOk c) := by
  unfold ShortOk
  infer_instance
theorem short3 : ∀ c ∈ comps, ShortOk c := by decide +kernel
theorem short4 : ∀ c ∈ comps4 true, ShortOk c := by decide +kernel
theorem short5 : ∀ c ∈ comps4 false, ShortOk c := by decide +kernel
/-! ### sets and letters -/
theorem sets_ok : ∀ n, n ≤ 4 → ∀ s ∈ allSets n, s.length ≤ n ∧ (∀ x ∈ s, x ∈ alph n) ∧ s.Pairwise (· < ·) ∧ restF n s ∈ allSets n ∧ s ∈ allSets 4 ∧ restF n s ∈ allSets 4
  | 0, _ => by decide +kernel
  | 1, _ => by decide +kernel
  | 2, _ => by decide +kernel
  | 3, _ => by decide +kernel
  | 4, _ => by decide +kernel
  | n + 5, h => by omega
theorem alph_set : ∀ n, n ≤ 4 → alph n ∈ allSets n ∧ alph n ∈ allSets 4
  | 0, _ => by decide +kernel
  | 1, _ => by decide +kernel
  | 2, _ => by decide +kernel
  | 3, _ => by decide +kernel
  | 4, _ => by decide +kernel
  | n + 5, h => by omega
theorem both_ways : ∀ n, n ≤ 4 → ∀ x ∈ alph n, ∀ y ∈ alph n, x ≠ y → (∃ p ∈ ordersF (alph n), bef p x y = true) ∧ ∃ p ∈ ordersF (alph n), bef p x y = false
  | 0, _ => by decide +kernel
  | 1, _ => by decide +kernel
  | 2, _ => by decide +kernel
  | 3, _ => by decide +kernel
  | 4, _ => by decide +kernel
  | n + 5, h => by omega
theorem okS_of {n : Nat} {ps : List (Nat × Nat)} (hC : OkC (n, ps)) {s : List Nat} (h : s ∈ allSets n) : OkS (n, ps) s := by
  obtain ⟨h1, h2, h3, _⟩ := sets_ok n hC.1.2 s h
  refine ⟨hC, h1, h2, fun i a b ha hb => ?_⟩
  obtain ⟨hi, ea⟩ := List.getElem?_eq_some_iff.mp ha
  obtain ⟨hj, eb⟩ := List.getElem?_eq_some_iff.mp hb
  have := (List.pairwise_iff_getElem.mp h3) i (i + 1) hi hj (by omega)
  rw [ea, eb] at this
  exact this
/-! ### who stands first -/
theorem bef_cons (a : Nat) (r : List Nat) (x y : Nat) : bef (a :: r) x y = if a = x then true else if a = y then false else bef r x y := by
  have hb : ∀ u v : Nat, (Nat.beq u v = true) = (u = v) := fun u v => propext ⟨Nat.eq_of_beq_eq_true, fun e => by rw [e]; exact Nat.beq_refl v⟩
  show (if Nat.beq a x = true then true else if Nat.beq a y = true then false else bef r x y) = _
  simp only [hb]
theorem bef_none {l : List Nat} {x y : Nat} (hx : x ∉ l) (hy : y ∉ l) : bef l x y = false := by
  induction l with
  | nil => rfl
  | cons a r ih =>
    rw [bef_cons, if_neg (fun e => hx (by simp [e])), if_neg (fun e => hy (by simp [e]))]
    exact ih (fun h => hx (List.mem_cons_of_mem _ h)) fun h => hy (List.mem_cons_of_mem _ h)
theorem bef_append (l1 l2 : List Nat) (x y : Nat) : bef (l1 ++ l2) x y = if x ∈ l1 ∨ y ∈ l1 then bef l1 x y else bef l2 x y := by
  induction l1 with
  | nil => simp
  | cons a r ih =>
    rw [List.cons_append, bef_cons, bef_cons, ih]
    by_cases h1 : a = x
    · simp [h1]
    · by_cases h2 : a = y
      · simp [h1, h2]
      · rw [if_neg h1, if_neg h2, if_neg h1, if_neg h2]
        have e : (x ∈ a :: r ∨ y ∈ a :: r) ↔ (x ∈ r ∨ y ∈ r) := by
          simp [Ne.symm h1, Ne.symm h2]
        by_cases h3 : x ∈ r ∨ y ∈ r
        · rw [if_pos h3, if_pos (e.mpr h3)]
        · rw [if_neg h3, if_neg (fun z => h3 (e.mp z))]
theorem bef_firsts (l : List Nat) (x y : Nat) : bef (firstsF l) x y = bef l x y := by
  refine snoc_ind (P := fun l => bef (firstsF l) x y = bef l x y) rfl (fun l c ih => ?_) l
  rw [firsts_snoc, bef_append]
  have hm := firsts_mem l
  by_cases hc : c ∈ l
  · rw [if_pos hc, ih]
    by_cases h : x ∈ l ∨ y ∈ l
    · rw [if_pos h]
    · rw [if_neg h, bef_none (fun z => h (.inl z)) (fun z => h (.inr z))]
      have hx : c ≠ x := fun e => h (.inl (e ▸ hc))
      have hy : c ≠ y := fun e => h (.inr (e ▸ hc))
      rw [bef_cons, if_neg hx, if_neg hy]
      rfl
  · rw [if_neg hc, bef_append, ih]
    simp only [hm]
theorem sig_eq {ps : List (Nat × Nat)} {p q : List Nat} : sig ps p = sig ps q ↔ ∀ e ∈ ps, bef p (97 + e.1) (97 + e.2) = bef q (97 + e.1) (97 + e.2) := by
  unfold sig
  rw [List.map_inj_left]
section
variable {n : Nat} {ps : List (Nat × Nat)}
theorem kind_ok (h1 : 1 ≤ n) (h4 : n ≤ 4) (hs : List.Sublist ps (prs n)) : KindOk (n, ps) := all_comps kind3 kind4 kind5 h1 h4 hs
theorem count_ok (h1 : 1 ≤ n) (h4 : n ≤ 4) (hs : List.Sublist ps (prs n)) : CountOk (n, ps) := all_comps count3 count4 count5 h1 h4 hs
theorem short_ok (h1 : 1 ≤ n) (h4 : n ≤ 4) (hs : List.Sublist ps (prs n)) : shortF (n, ps) = dueF (n, ps) := all_comps short3 short4 short5 h1 h4 hs
theorem okc_ok (h1 : 1 ≤ n) (h4 : n ≤ 4) (hs : List.Sublist ps (prs n)) : OkC (n, ps) := okC_of (all_comps okb3 okb4 okb5 h1 h4 hs)
theorem kind_find (hK : KindOk (n, ps)) {p : List Nat} (hp : p ∈ ordersF (alph n)) : kindF ps p ∈ ordersF (alph n) ∧ sig ps (kindF ps p) = sig ps p := by
  have e := hK p hp
  change kindF ps p = firstOf ps (ordersF (alph n)) (sig ps p) at e
  unfold firstOf at e
  cases hf : (ordersF (alph n)).find? (fun q => sig ps q == sig ps p) with
  | none =>
    have := List.find?_eq_none.mp hf p hp
    simp at this
  | some q =>
    rw [hf] at e
    have h1 := List.find?_some hf
    have h2 := List.mem_of_find?_eq_some hf
    rw [e]
    exact ⟨h2, by simpa using h1⟩
theorem kind_sig (hK : KindOk (n, ps)) {p q : List Nat} (hp : p ∈ ordersF (alph n)) (hq : q ∈ ordersF (alph n)) : kindF ps p = kindF ps q ↔ sig ps p = sig ps q := by
  constructor
  · intro h
    rw [← (kind_find hK hp).2, ← (kind_find hK hq).2, h]
  · intro h
    have e1 := hK p hp
    have e2 := hK q hq
    change kindF ps p = firstOf ps (ordersF (alph n)) (sig ps p) at e1
    change kindF ps q = firstOf ps (ordersF (alph n)) (sig ps q) at e2
    rw [e1, e2, h]
theorem alph_nd : ∀ n, n ≤ 4 → (alph n).Nodup
  | 0, _ => by decide +kernel
  | 1, _ => by decide +kernel
  | 2, _ => by decide +kernel
  | 3, _ => by decide +kernel
  | 4, _ => by decide +kernel
  | n + 5, h => by omega
/-- an order of all letters, put behind a word's letters -/
theorem behind {u k : List Nat} (hu : ∀ x ∈ u, x ∈ alph n) (hk : k ∈ ordersF (alph n)) : firstsF (u ++ k) ∈ ordersF (alph n) := by
  obtain ⟨k1, k2, k3⟩ := ord_mem hk
  have hsub : ∀ s ∈ firstsF (u ++ k), s ∈ alph n := fun s hs => by
    rcases List.mem_append.mp ((firsts_mem _ s).mp hs) with h | h
    · exact hu s h
    · exact k3 s h
  refine (mem_ordTo (alph n) (alph n).length _).mpr ⟨?_, firsts_nd _, hsub⟩
  have h1 := List.Nodup.length_le_of_subset (firsts_nd (u ++ k)) hsub
  have h2 := List.Nodup.length_le_of_subset k2 (l₂ := firstsF (u ++ k)) fun x hx => (firsts_mem _ x).mpr (List.mem_append_right _ hx)
  omega
theorem kind_firsts (ps : List (Nat × Nat)) (w : List Nat) : kindF ps (firstsF w) = kindF ps w := by
  have h : firstsF (firstsF w) = firstsF w := by
    have key : ∀ l : List Nat, l.Nodup → firstsF l = l := by
      intro l
      refine snoc_ind (P := fun l => l.Nodup → firstsF l = l) (fun _ => rfl) (fun l c ih nd => ?_) l
      obtain ⟨n1, n2, n3⟩ := List.nodup_append.mp nd
      rw [firsts_snoc, if_neg (fun z => n3 c z c (by simp) rfl), ih n1]
    exact key _ (firsts_nd w)
  unfold kindF
  rw [h]
theorem one_kind {xs : List (List Nat)} (hne : xs ≠ []) : (ddN xs).length = 1 ↔ ∀ a ∈ xs, ∀ b ∈ xs, a = b := by
  constructor
  · intro h a ha b hb
    obtain ⟨z, hz⟩ := List.length_eq_one_iff.mp h
    have h1 := (ddN_mem xs a).mpr ha
    have h2 := (ddN_mem xs b).mpr hb
    rw [hz, List.mem_singleton] at h1 h2
    rw [h1, h2]
  · intro h
    cases xs with
    | nil => exact absurd rfl hne
    | cons a r =>
      have h1 := List.Nodup.length_le_of_subset (ddN_nd (a :: r)) (l₂ := [a]) fun x hx => by
        rw [List.mem_singleton]
        exact h x ((ddN_mem _ x).mp hx) a (by simp)
      have h2 : a ∈ ddN (a :: r) := (ddN_mem _ a).mpr (by simp)
      have h3 : 0 < (ddN (a :: r)).length := List.length_pos_iff.mpr fun z => by rw [z] at h2; cases h2
      simp at h1
      omega
/-- M1: a word gathers iff one kind is left behind it -/
theorem gathers_iff (h1 : 1 ≤ n) (h4 : n ≤ 4) (hs : List.Sublist ps (prs n)) {ys : List (List Nat)} (hy : ys.Perm (kindsF ps (alph n))) {w : List Nat} (hw : ∀ x ∈ w, x ∈ alph n) :
    gathersF ps w = decide ((ddN (ys.map fun k => kindF ps (w.reverse ++ k))).length = 1) := by
  have hK := kind_ok h1 h4 hs
  have hC := okc_ok h1 h4 hs
  have hL : ordersF (alph n) ≠ [] := by
    have := List.ne_nil_of_mem ((mem_ordTo (alph n) (alph n).length (alph n)).mpr ⟨rfl, alph_nd n h4, fun s hs => hs⟩)
    exact this
  have hmem : ∀ k, k ∈ ys ↔ ∃ p ∈ ordersF (alph n), kindF ps p = k := fun k => by
    rw [hy.mem_iff]
    unfold kindsF
    rw [ddN_mem, List.mem_map]
  have hyne : ys ≠ [] := fun z => by
    obtain ⟨p, hp⟩ := List.exists_mem_of_ne_nil _ hL
    have := (hmem _).mpr ⟨p, hp, rfl⟩
    rw [z] at this
    cases this
  have hord : ∀ k ∈ ys, k ∈ ordersF (alph n) := fun k hk => by
    obtain ⟨p, hp, rfl⟩ := (hmem k).mp hk
    exact (kind_find hK hp).1
  have hrev : ∀ x ∈ w.reverse, x ∈ alph n := fun x hx => hw x (List.mem_reverse.mp hx)
  have hne : (ys.map fun k => kindF ps (w.reverse ++ k)) ≠ [] := by simpa using hyne
  have hbef : ∀ k x y, bef (firstsF (w.reverse ++ k)) x y = if x ∈ w ∨ y ∈ w then bef w.reverse x y else bef k x y := fun k x y => by
    rw [bef_firsts, bef_append]
    simp only [List.mem_reverse]
  have hiff : (ddN (ys.map fun k => kindF ps (w.reverse ++ k))).length = 1 ↔ ∀ e ∈ ps, 97 + e.1 ∈ w ∨ 97 + e.2 ∈ w := by
    rw [one_kind hne]
    constructor
    · intro h e he
      refine Classical.byContradiction fun hc => ?_
      have hx : 97 + e.1 ∈ alph n := mem_alph.mpr (by have := hC.2.2.1 e he; change e.1 < e.2 ∧ e.2 < n at this; omega)
      have hy2 : 97 + e.2 ∈ alph n := mem_alph.mpr (by have := hC.2.2.1 e he; change e.1 < e.2 ∧ e.2 < n at this; omega)
      have hxy : 97 + e.1 ≠ 97 + e.2 := by have := hC.2.2.1 e he; omega
      obtain ⟨⟨p1, hp1, b1⟩, p2, hp2, b2⟩ := both_ways n h4 _ hx _ hy2 hxy
      have k1 := kind_find hK hp1
      have k2 := kind_find hK hp2
      have m1 := (hmem _).mpr ⟨p1, hp1, rfl⟩
      have m2 := (hmem _).mpr ⟨p2, hp2, rfl⟩
      have he2 := h _ (List.mem_map.mpr ⟨_, m1, rfl⟩) _ (List.mem_map.mpr ⟨_, m2, rfl⟩)
      change kindF ps (w.reverse ++ kindF ps p1) = kindF ps (w.reverse ++ kindF ps p2) at he2
      rw [← kind_firsts ps (w.reverse ++ kindF ps p1), ← kind_firsts ps (w.reverse ++ kindF ps p2)] at he2
      have hsg := (kind_sig hK (behind hrev k1.1) (behind hrev k2.1)).mp he2
      have := sig_eq.mp hsg e he
      rw [hbef, hbef, if_neg hc, if_neg hc, sig_eq.mp k1.2 e he, sig_eq.mp k2.2 e he, b1, b2] at this
      cases this
    · intro h a ha b hb
      obtain ⟨k1, m1, rfl⟩ := List.mem_map.mp ha
      obtain ⟨k2, m2, rfl⟩ := List.mem_map.mp hb
      rw [← kind_firsts ps (w.reverse ++ k1), ← kind_firsts ps (w.reverse ++ k2)]
      refine (kind_sig hK (behind hrev (hord _ m1)) (behind hrev (hord _ m2))).mpr (sig_eq.mpr fun e he => ?_)
      rw [hbef, hbef, if_pos (h e he), if_pos (h e he)]
  have hg : gathersF ps w = true ↔ ∀ e ∈ ps, 97 + e.1 ∈ w ∨ 97 + e.2 ∈ w := by
    unfold gathersF
    rw [Bool.not_eq_true', List.any_eq_false]
    constructor
    · intro h e he
      have := h _ (List.mem_map.mpr ⟨e, he, rfl⟩)
      by_cases hx : 97 + e.1 ∈ w
      · exact .inl hx
      · by_cases hy : 97 + e.2 ∈ w
        · exact .inr hy
        · simp [hx, hy] at this
    · intro h b hb
      obtain ⟨e, he, rfl⟩ := List.mem_map.mp hb
      rcases h e he with h | h <;> simp [h]
  by_cases hc : ∀ e ∈ ps, 97 + e.1 ∈ w ∨ 97 + e.2 ∈ w
  · rw [hg.mpr hc, decide_eq_true (hiff.mpr hc)]
  · rw [decide_eq_false (fun z => hc (hiff.mp z))]
    exact Bool.eq_false_iff.mpr fun z => hc (hg.mp z)
/-- so many kinds of all letters -/
theorem kinds_count (h1 : 1 ≤ n) (h4 : n ≤ 4) (hs : List.Sublist ps (prs n)) {ys : List (List Nat)} {l : List Nat} (hl : l ∈ allSets n) (hy : ys.Perm (kindsF ps l)) : ys.length = countOf ps l := by
  rw [hy.length_eq]
  exact count_ok h1 h4 hs l hl
end
end F1
set_option Elab.async false
set_option linter.all false
set_option maxRecDepth 100000
set_option maxHeartbeats 1000000
namespace F1
open PySem PySem.Spec PyProof.Rows L2 Evl
/-! ### what law uses -/
section
variable {K : PySem.W.Frag} {w : World} {σ : L2.St} {H : Hp} {te ta tb tc : TE}
theorem er_rev {l : List Nat} (h : EvR te σ H rX l) (hl : l.length ≤ 100000) : EvR (R4.tRevS te) σ H rX l.reverse := fun H1 e Q q => h H1 e _ fun v H2 e2 r => by
  cases r
  refine ⟨tx l, rfl, sz_of (by rw [len_tx]; exact hl), q _ H2 e2 ?_⟩
  show V.str (R4.revS (tx l)) = V.str (tx l.reverse)
  rfl
theorem ev_ali {v : V} {n : String} (h1 : Ev ta σ H v) (h2 : Ev tb σ H v) (h : Sc v n) : Ev (tCall spAli [] E0 (tCons ta (tCons tb tNil))) σ H (.bl true) := fun H1 e Q q =>
  h1 H1 e _ fun H2 e2 => h2 H2 (e.trans e2) _ fun H3 e3 => ⟨v, n, rfl, h, fun H4 e4 => q H4 ((e2.trans e3).trans e4)⟩
theorem et_ali {v : V} {n : String} (h1 : Ev ta σ H v) (h2 : Ev tb σ H v) (h : Sc v n) : EvT (tNot (tB (tCall spAli [] E0 (tCons ta (tCons tb tNil))))) σ H false := et_not (et_B (ev_ali h1 h2 h))
theorem row_ne {r p s : Addr} {ns : List Int} {α : Type} {f : α → V} {bs : List α} {us : List V} (hr : RowOk K s ns H r) (hp : H p = some (.lst us)) (hu : Paired (rS f H) us bs) (hf : ∀ b, f b ≠ .ref s) : p ≠ r := fun z => by
  obtain ⟨i, x, y, h⟩ := hr
  have h1 := h.at_
  rw [← z, hp] at h1
  injection h1 with h1
  injection h1 with h1
  subst h1
  cases hu with
  | cons r1 r2 => exact hf _ r1.symm
/-- so many kinds of l -/
theorem ev_lenK {n : Nat} {ps : List (Nat × Nat)} {l : List Nat} (h1 : 1 ≤ n) (h4 : n ≤ 4) (hs : List.Sublist ps (prs n)) (hl : l ∈ allSets n) (hl4 : l ∈ allSets 4) (hp : ps.length ≤ 6) (ha : EvR ta σ H rCo (n, ps)) (hb : EvR tb σ H rX l) :
    Ev (tCB (fun xs H Q => ∃ p ys, xs = [.ref p] ∧ (SqL K H p ys ∨ SqT K H p ys) ∧ Q (.int ys.length) H) (tCons (tCall spKds [] E0 (tCons ta (tCons tb tNil))) tNil)) σ H (.int (countOf ps l : Nat)) := fun H1 e Q q =>
  ha H1 e _ fun x H2 e2 rx => hb H2 (e.trans e2) _ fun y H3 e3 ry => ⟨x, y, (n, ps), l, rfl, mn_co _ _ _ _ e3 rx, ry, hp, hl4, fun v ys H4 e4 rv hy => by
    obtain ⟨p, us, rfl, hpu, hu⟩ := rv
    refine ⟨p, us, rfl, .inl (sq_of hpu), ?_⟩
    rw [hu.length, kinds_count h1 h4 hs hl hy]
    exact q H4 ((e2.trans e3).trans e4)⟩
/-- one kind left behind the word w -/
theorem ev_one {n : Nat} {ps : List (Nat × Nat)} {ys : List (List Nat)} {u : List Nat} {vs : List Nat} {j : Nat} {tk : TE} (h1 : 1 ≤ n) (h4 : n ≤ 4) (hs : List.Sublist ps (prs n)) (hy : ys.Perm (kindsF ps (alph n))) (hw : ∀ x ∈ u, x ∈ alph n) (hul : u.length ≤ 60)
    (hl : EvR te σ H (rL rX) ys) (hwp : ∀ v : V, wipe ((wipe σ vs).set j (some v)) vs = wipe σ vs)
    (hk : ∀ k v H1, Ex H H1 → k.length ≤ 4 → (∀ x ∈ k, x ∈ alph n) → v = .str (tx k) → EvR tk ((wipe σ vs).set j (some v)) H1 rX (kindF ps (u.reverse ++ k))) :
    Ev (tOp rEq (tCB (R3.rLenSS w) (tCons (tCB (R3.rSetS K w) (tCons (tLc (iList K te) (gName j) tYes tk vs) tNil)) tNil)) (tC (.int 1))) σ H (.bl (gathersF ps u)) := by
  have hmem : ∀ k ∈ ys, k.length ≤ 4 ∧ ∀ x ∈ k, x ∈ alph n := fun k hk => by
    have h := hy.mem_iff.mp hk
    unfold kindsF at h
    rw [ddN_mem] at h
    obtain ⟨p, hp, rfl⟩ := List.mem_map.mp h
    obtain ⟨o1, o2, o3⟩ := ord_mem hp
    rw [alph_len] at o1
    have := kind_len (ps := ps) (w := p)
    exact ⟨by omega, fun x hx => o3 x (kind_sub x hx)⟩
  have h24 : ys.length ≤ 24 := by
    have h24 := (sets4 (alph n) (alph_set n h4).2).2.2
    have := ddN_len ((ordersF (alph n)).map (kindF ps))
    rw [List.length_map] at this
    rw [hy.length_eq]
    unfold kindsF
    omega
  rw [gathers_iff h1 h4 hs hy hw]
  refine ev_is (ev_op (ev_lenSt (er_set (er_is (er_lc (R := rX) (S := rX) (as := ys) (fun _ => true) (fun k => kindF ps (u.reverse ++ k)) (ei_list hl mn_S) mt_S (by omega) tg_name fun k v H1 e1 hk' rv => ⟨hwp v, fun _ _ _ q => q _ (Ex.refl _), fun _ => hk k v H1 e1 (hmem k hk').1 (hmem k hk').2 rv⟩) (by rw [filt_true])) (by rw [List.length_map]; omega))) ev_c (rv_eq rfl)) ?_
  congr 1
  generalize (ddN (ys.map fun k => kindF ps (u.reverse ++ k))).length = m
  by_cases hm : m = 1
  · subst hm
    rfl
  · rw [decide_eq_false hm, decide_eq_false]
    intro z
    injection z with z
    omega
end
theorem cov_filt (l t : List Nat) : decide ((l.filter fun x => !decide (x ∈ t)) = []) = covL l t := by
  unfold covL
  by_cases h : (l.filter fun x => !decide (x ∈ t)) = []
  · rw [decide_eq_true h]
    symm
    refine all_true fun b hb => ?_
    obtain ⟨a, ha, rfl⟩ := List.mem_map.mp hb
    refine decide_eq_true (Classical.byContradiction fun hn => ?_)
    have : a ∈ l.filter fun x => !decide (x ∈ t) := List.mem_filter.mpr ⟨ha, by simp [hn]⟩
    rw [h] at this
    cases this
  · rw [decide_eq_false h]
    symm
    obtain ⟨a, ha⟩ := List.exists_mem_of_ne_nil _ h
    obtain ⟨h1, h2⟩ := List.mem_filter.mp ha
    refine Bool.eq_false_iff.mpr fun z => ?_
    have := List.all_eq_true.mp z (decide (a ∈ t)) (List.mem_map.mpr ⟨a, h1, rfl⟩)
    simp at h2
    simp [h2] at this
end F1
set_option Elab.async false
set_option linter.all false
set_option maxRecDepth 100000
set_option maxHeartbeats 4000000
namespace F1
open PySem PySem.Spec PyProof.Rows L2 Evl
abbrev lawN : List Str := ["_law_script", "_law_row", "_law_company_here", "_law_signs", "_law_whole", "_law_word_here", "_law_due", "_law_length", "_law_told", "_law_letters", "_law_total", "_law_lot", "_law_count", "_law_odd", "_law_sums", "_law_kind_here", "_law_sign"]
theorem sc47 : FnScope lawN ["_law_script"] (defScope (top 47)) := ⟨rfl, rfl, rfl, by decide +kernel, rfl, by decide +kernel, by decide +kernel⟩
def spLaw (K : PySem.W.Frag) : Sp := fun vs H Q _ => ∃ (a : Addr) (ns : List Int), vs = [.ref a] ∧ SqL K H a (ns.map V.int) ∧ ns.length ≤ 63 ∧ ∀ H', Q (.bl true) H'
/-- the defs that law calls -/
structure Defs (P : Program) (w : World) (K : PySem.W.Frag) (mg : Str → Option Value) (base : Heap) (f : Nat → Addr) (fd : Nat → FuncData) : Prop where
  gat : Cal P w K mg base 4 "gathers" (f 0) (fd 0) ["company", "word"] spGat
  sho : Cal P w K mg base 4 "shortest_gathering" (f 1) (fd 1) ["company"] spSho
  sha : Cal P w K mg base 10 "share" (f 2) (fd 2) ["company", "letters"] spSha
  sta : Cal P w K mg base 10 "staying" (f 3) (fd 3) ["company", "length"] spSta
  tk : Cal P w K mg base 1 "_law_taken" (f 4) (fd 4) ["_law_row", "_law_many"] (spTk K)
  com : Cal P w K mg base 2 "_law_company" (f 5) (fd 5) ["_law_row", "_law_most"] (spLCo K)
  pkN : Cal P w K mg base 2 "_law_pick" (f 6) (fd 6) ["_law_row", "_law_things"] (spPick K rN)
  pkX : Cal P w K mg base 2 "_law_pick" (f 6) (fd 6) ["_law_row", "_law_things"] (spPick K rX)
  kin : Cal P w K mg base 2 "_law_kind" (f 7) (fd 7) ["_law_company_here", "_law_word_here"] spKin
  kds : Cal P w K mg base 3 "_law_kinds_of" (f 8) (fd 8) ["_law_company_here", "_law_letters"] spKds
  wrd : Cal P w K mg base 2 "_law_word" (f 9) (fd 9) ["_law_row", "_law_company_here", "_law_most"] (spWrd K)
  ali : Cal P w K mg base 1 "_law_alike" (f 10) (fd 10) ["_law_found", "_law_due"] spAli
  alw : Cal P w K mg base 1 "_law_all_words" (f 11) (fd 11) ["_law_company_here", "_law_length"] spAlw
  lot : Cal P w K mg base 2 "_law_lots" (f 12) (fd 12) ["_law_many"] spLot
  pw : Cal P w K mg base 1 "_law_power" (f 13) (fd 13) ["_law_base", "_law_times"] spPow
section
variable {P : Program} {w : World} {K : PySem.W.Frag} {mg : Str → Option Value} {base : Heap} {f : Addr} {fd : FuncData} {k : Nat} {g : Nat → Addr} {gd : Nat → FuncData}
theorem ok_law (F : Fun K "law" "law" (top 47) f fd) (C : Defs P w K mg base g gd) (ml : mg "len" = none) (ms : mg "set" = none) (mr : mg "range" = none) : FnOk P w K mg base CX0 12 f fd ["_law_script"] (spLaw K) := by
  refine F.ok sc47 (fun vs H Q E h => ?_) (fun cdv A outer s H vs Q E hr h => ?_)
  · obtain ⟨a, ns, rfl, _⟩ := h
    rfl
  obtain ⟨a, ns, rfl, hS, h63, q⟩ := h
  refine ⟨_, pss_cons (ps_set (i := 1) sc47.nd rfl (.inl rfl) (pe_lst (pa_cons (pv 0) (pa_cons pe_int (pa_cons pe_int (pa_cons pe_int pa_nil))))))
    (pss_cons (ps_set (i := 2) sc47.nd rfl (.inr rfl) (pe_cal C.com (by omega : 2 ≤ 11) hr (pa_cons (pv 1) (pa_cons (pe_cal C.pkN (by omega : 2 ≤ 11) hr (pa_cons (pv 1) (pa_cons (pe_lst (pa_cons pe_int (pa_cons pe_int pa_nil))) pa_nil))) pa_nil))))
    (pss_cons (ps_set (i := 3) sc47.nd rfl (.inl rfl) (pe_slice sl_str pe_str po_none (po_some (pe_ix ix_tup (pv 2) pe_int (fun _ _ => rfl)))))
    (pss_cons (ps_asg (pe_tup (pa_cons (pe_cal C.kds (by omega : 3 ≤ 11) hr (pa_cons (pv 2) (pa_cons (pv 3) pa_nil))) (pa_cons (pe_cal C.wrd (by omega : 2 ≤ 11) hr (pa_cons (pv 1) (pa_cons (pv 2) (pa_cons pe_int pa_nil)))) pa_nil)))
      (pg_tup rfl (pgs_cons (pg_name (i := 4) sc47.nd rfl (.inl rfl)) (pgs_cons (pg_name (i := 5) sc47.nd rfl (.inr rfl)) pgs_nil))))
    (pss_cons (ps_if (pt_not (pt_val (pe_cal C.ali (by omega : 1 ≤ 11) hr (pa_cons (pe_cal C.gat (by omega : 4 ≤ 11) hr (pa_cons (pv 2) (pa_cons (pv 5) pa_nil)))
        (pa_cons (pe_cmpR op_eq (pe_callB R3.cr_lenSS (by rfl) ml boot_len (pa_cons (pe_callTy (R3.cr_setS rfl) (by rfl) ms (by decide +kernel) (pa_cons (pe_lc (own := [("_law_kind_here", 15)]) (g := gName 15) (tt := tYes) rfl sc47.nd (pi_list (pv 4))
          (blkOk_by (N := lawN) (sc := defScope (top 47)) (by decide +kernel)) (fun _ _ _ _ _ => pg_name (i := 15) sc47.nd rfl (.inl rfl)) (fun _ _ _ _ _ => pts_nil)
          (fun _ _ _ _ _ => pe_cal C.kin (by omega : 2 ≤ 11) hr (pa_cons (pv 2) (pa_cons (pe_op op_add_str (R4.pe_revS (pv 5)) (pv 15)) pa_nil)))) pa_nil)) pa_nil)) pe_int (nomark _)) pa_nil))))) pss_never pss_nil)
    (pss_cons (ps_set (i := 6) sc47.nd rfl (.inl rfl) (pe_ifExp (pt_cmpR op_eq (pe_callB call_len_seq (by rfl) ml boot_len (pa_cons (pv 4) pa_nil)) pe_int (nomark _)) pe_str pe_non))
    (pss_cons (ps_for PassesOwn.never rfl (pi_range2 (by rfl) mr (pa_cons pe_int (pa_cons (pe_ix ix_tup (pv 2) pe_int (fun _ _ => rfl)) pa_nil))) (pg_name (i := 7) sc47.nd rfl (.inl rfl))
      (pss_one (ps_for PassesOwn.never rfl (pi_list (pe_ifExp (pt_cmpR op_isN1 (pv 6) pe_non (nomark _)) (pe_cal C.alw (by omega : 1 ≤ 11) hr (pa_cons (pv 2) (pa_cons (pv 7) pa_nil))) (pe_lst pa_nil))) (pg_name (i := 8) sc47.nd rfl (.inr rfl))
        (pss_one (ps_set (i := 6) sc47.nd rfl (.inl rfl) (pe_ifExp (pw_and (pt_cmpR op_isN1 (pv 6) pe_non (nomark _)) (pw_and1 (pt_cmpR op_eq (pe_callB R3.cr_lenSS (by rfl) ml boot_len (pa_cons (pe_callTy (R3.cr_setS rfl) (by rfl) ms (by decide +kernel) (pa_cons (pe_lc (own := [("_law_kind_here", 15)]) (g := gName 15) (tt := tYes) rfl sc47.nd (pi_list (pv 4))
          (blkOk_by (N := lawN) (sc := defScope (top 47)) (by decide +kernel)) (fun _ _ _ _ _ => pg_name (i := 15) sc47.nd rfl (.inl rfl)) (fun _ _ _ _ _ => pts_nil)
          (fun _ _ _ _ _ => pe_cal C.kin (by omega : 2 ≤ 11) hr (pa_cons (pv 2) (pa_cons (pe_op op_add_str (R4.pe_revS (pv 8)) (pv 15)) pa_nil)))) pa_nil)) pa_nil)) pe_int (nomark _)))).pt (pv 8) (pv 6)))))))
    (pss_cons (ps_if (pt_not (pt_val (pe_cal C.ali (by omega : 1 ≤ 11) hr (pa_cons (pe_cal C.sho (by omega : 4 ≤ 11) hr (pa_cons (pv 2) pa_nil)) (pa_cons (pv 6) pa_nil))))) pss_never pss_nil)
    (pss_cons (ps_par (i := 9) (j := 10) rfl sc47.nd rfl rfl (by decide) rfl rfl (pa_cons (pe_cal C.pkX (by omega : 2 ≤ 11) hr (pa_cons (pv 1) (pa_cons (pe_cal C.lot (by omega : 2 ≤ 11) hr (pa_cons (pe_ix ix_tup (pv 2) pe_int (fun _ _ => rfl)) pa_nil)) pa_nil))) (pa_cons pe_int pa_nil)) (by rfl))
    (pss_cons (ps_for PassesOwn.never rfl (pi_list (pe_cal C.lot (by omega : 2 ≤ 11) hr (pa_cons (pe_ix ix_tup (pv 2) pe_int (fun _ _ => rfl)) pa_nil))) (pg_name (i := 11) sc47.nd rfl (.inr rfl))
      (pss_one (ps_if (pt_cmpR (op_eqD hr.units) (pe_lc (own := [("_law_sign", 16)]) (g := gName 16) rfl sc47.nd (pi_str (pv 9)) (blkOk_by (N := lawN) (sc := defScope (top 47)) (by decide +kernel)) (fun _ _ _ _ _ => pg_name (i := 16) sc47.nd rfl (.inl rfl))
          (fun _ _ _ _ _ => pts_one (pt_cmpR op_notInS (pv 16) (pv 11) (by rfl))) (fun _ _ _ _ _ => pv 16)) (pe_lst pa_nil) (nomark _))
        (pss_cons (ps_set (i := 12) sc47.nd rfl (.inl rfl) (pe_callB call_len_seq (by rfl) ml boot_len (pa_cons (pe_cal C.kds (by omega : 3 ≤ 11) hr (pa_cons (pv 2) (pa_cons (pe_join pe_str (pe_lc (own := [("_law_sign", 16)]) (g := gName 16) rfl sc47.nd (pi_str (pv 3))
          (blkOk_by (N := lawN) (sc := defScope (top 47)) (by decide +kernel)) (fun _ _ _ _ _ => pg_name (i := 16) sc47.nd rfl (.inl rfl)) (fun _ _ _ _ _ => pts_one (pt_cmpR op_notInS (pv 16) (pv 11) (by rfl))) (fun _ _ _ _ _ => pv 16))) pa_nil))) pa_nil)))
        (pss_cons (ps_set (i := 13) sc47.nd rfl (.inl rfl) (pe_op op_sub (pe_op op_sub (pe_callB call_len_str (by rfl) ml boot_len (pa_cons (pv 11) pa_nil)) (pe_callB call_len_str (by rfl) ml boot_len (pa_cons (pv 9) pa_nil)))
          (pe_op op_mulW (pe_op op_fdiv (pe_op op_sub (pe_callB call_len_str (by rfl) ml boot_len (pa_cons (pv 11) pa_nil)) (pe_callB call_len_str (by rfl) ml boot_len (pa_cons (pv 9) pa_nil))) pe_int) pe_int)))
        (pss_one (ps_set (i := 10) sc47.nd rfl (.inl rfl) (pe_op op_add (pv 10) (pe_ifExp (pt_cmpR op_eq (pv 13) pe_int (nomark _)) (pv 12) (pe_op op_sub pe_int (pv 12)))))))) pss_nil)))
    (pss_cons (ps_if (pt_not (pt_val (pe_cal C.ali (by omega : 1 ≤ 11) hr (pa_cons (pe_cal C.sha (by omega : 10 ≤ 11) hr (pa_cons (pv 2) (pa_cons (pv 9) pa_nil))) (pa_cons (pv 10) pa_nil))))) pss_never pss_nil)
    (pss_cons (ps_par (i := 7) (j := 14) rfl sc47.nd rfl rfl (by decide) rfl rfl (pa_cons (pe_cal C.tk (by omega : 1 ≤ 11) hr (pa_cons (pv 1) (pa_cons pe_int pa_nil))) (pa_cons pe_int pa_nil)) (by rfl))
    (pss_cons (ps_for PassesOwn.never rfl (pi_list (pe_cal C.lot (by omega : 2 ≤ 11) hr (pa_cons (pe_ix ix_tup (pv 2) pe_int (fun _ _ => rfl)) pa_nil))) (pg_name (i := 11) sc47.nd rfl (.inr rfl))
      (pss_one (ps_set (i := 14) sc47.nd rfl (.inl rfl) (pe_op op_add (pv 14) (pe_op op_mulW (pe_cal C.sha (by omega : 10 ≤ 11) hr (pa_cons (pv 2) (pa_cons (pv 11) pa_nil))) (pe_cal C.pw (by omega : 1 ≤ 11) hr (pa_cons (pe_callB call_len_str (by rfl) ml boot_len (pa_cons (pv 11) pa_nil)) (pa_cons (pv 7) pa_nil))))))))
    (pss_one (ps_ret (pe_cal C.ali (by omega : 1 ≤ 11) hr (pa_cons (pe_cal C.sta (by omega : 10 ≤ 11) hr (pa_cons (pv 2) (pa_cons (pv 7) pa_nil))) (pa_cons (pv 14) pa_nil))))))))))))))))), ?_⟩
  -- the row
  refine ⟨_, rfl, (by show 4 ≤ 16777216; omega), fun r hr0 => ?_⟩
  show tSeq _ _ _ [some (.ref a), some (.ref r), none, none, none, none, none, none, none, none, none, none, none, none, none, none, none] (upd H r (.lst [.ref a, .int 0, .int 7939, .int 0]))
  have ro1 : RowOk K a ns (upd H r (.lst [.ref a, .int 0, .int 7939, .int 0])) r := ⟨0, 7939, 0, upd_same, ex_l (Ex.new hr0) hS, by omega, by omega, by omega⟩
  generalize upd H r (.lst [.ref a, .int 0, .int 7939, .int 0]) = H1 at ro1 ⊢
  -- the company
  refine ⟨_, rfl, _, rfl, (by show 2 ≤ 16777216; omega), fun p hp => ⟨r, p, a, ns, _, [3, 4], rfl, fun z => ?_, ro1.ex (Ex.new hp), upd_same, .cons rfl (.cons rfl .nil), by simp, by simp, fun v b H2 _ ro2 hb rb => ?_⟩⟩
  · obtain ⟨xs, hx⟩ := ro1.lst
    rw [z, hx] at hp
    cases hp
  cases rb
  refine ⟨r, a, ns, b, rfl, ?_, ?_, ro2, fun vc n ps H3 _ ro3 hn1 hn4 hsub rc => ?_⟩
  · simp at hb
    omega
  · simp at hb
    omega
  show tSeq _ _ _ [some (.ref a), some (.ref r), some vc, none, none, none, none, none, none, none, none, none, none, none, none, none, none] H3
  have hC := okc_ok hn1 hn4 hsub
  have hps : ps.length ≤ 6 := hC.2.1
  have hcd : ∀ x ∈ alph n, 97 ≤ x ∧ x ≤ 103 := fun x hx => by
    have := mem_alph.mp hx
    omega
  -- the letters
  refine r_set (R := rX) (a := alph n) (er_alph ev_c (fun H6 e6 => ev_vr (er_fst (er_var rfl (mn_co _ _ _ _ e6 rc) mn_co) mn_S fun _ _ => ev_c) rfl) (by omega)) fun v3 H4 e4 r3 => ?_
  cases r3
  -- the kinds of all letters, the word
  refine ⟨_, rfl, _, rfl, vc, _, (n, ps), alph n, rfl, mn_co _ _ _ _ e4 rc, rfl, hps, (alph_set n hn4).2, fun vw ys H5 e5 rw5 hperm => ?_⟩
  have rc5 := mn_co _ _ _ _ (e4.trans e5) rc
  have ro5 := ro3.ex (e4.trans e5)
  refine ⟨_, rfl, _, rfl, r, a, ns, vc, (n, ps), 6, rfl, rc5, hn1, hn4, by omega, by omega, ro5, fun wd H6 eb6 ro6 hw1 hw6 hwin => ?_⟩
  obtain ⟨xs5, hx5⟩ := ro5.lst
  have rc6 := mt_co _ _ _ _ (eb6.tp hx5) rc5
  have rw6 : rL rX H6 vw ys := by
    obtain ⟨pw, us, rfl, hpw, hus⟩ := rw5
    exact ⟨pw, us, rfl, eb6.lst (row_ne ro5 hpw hus fun b => by intro z; cases z) hpw, Paired.mapP hus fun x y h => h⟩
  refine ⟨(by show 2 ≤ 16777216; omega), fun t ht => ⟨t, _, rfl, st_of upd_same, rfl, _, _, rfl, _, _, rfl, rfl, ?_⟩⟩
  have rc7 := mn_co _ _ _ _ (Ex.new (o := .tup [vw, .str (tx wd)]) ht) rc6
  have rw7 := mn_L mn_S _ _ _ _ (Ex.new (o := .tup [vw, .str (tx wd)]) ht) rw6
  have ro7 := ro6.ex (Ex.new (o := .tup [vw, .str (tx wd)]) ht)
  show tSeq _ _ _ [some (.ref a), some (.ref r), some vc, some (.str (tx (alph n))), some vw, some (.str (tx wd)), none, none, none, none, none, none, none, none, none, none, none] (upd H6 t (.tup [vw, .str (tx wd)]))
  generalize upd H6 t (.tup [vw, .str (tx wd)]) = H7 at rc7 rw7 ro7 ⊢
  have hys : ys.length = countOf ps (alph n) := kinds_count hn1 hn4 hsub (alph_set n hn4).1 hperm
  have kinok : ∀ (l : List Nat), l.length ≤ 64 → (∀ x ∈ l, x ∈ alph n) → (n, ps).2.length ≤ 6 ∧ l.length ≤ 200 ∧ ∀ x ∈ l, 97 ≤ x ∧ x ≤ 103 := fun l h1 h2 => ⟨hps, by omega, fun x hx => hcd x (h2 x hx)⟩
  -- gathers
  have behind_ok : ∀ (i : Nat) (l : List Nat) (σ : L2.St) (Hx : Hp), l.length ≤ 60 → (∀ x ∈ l, x ∈ alph n) → Ex H7 Hx → σ[2]? = some (some vc) → σ[4]? = some (some vw) → σ[i]? = some (some (.str (tx l))) → i ≠ 15 → σ.length = 17 →
      Ev (tOp rEq (tCB (R3.rLenSS w) (tCons (tCB (R3.rSetS K w) (tCons (tLc (iList K (tVar 4)) (gName 15) tYes (tCall spKin [] E0 (tCons (tVar 2) (tCons (tOp (fun x y H Q => ∃ i j, x = .str i ∧ y = .str j ∧ i.length + j.length ≤ sizeLine ∧ Q (.str (i ++ j)) H) (R4.tRevS (tVar i)) (tVar 15)) tNil))) [15]) tNil)) tNil)) (tC (.int 1))) σ Hx (.bl (gathersF ps l)) := fun i l σ Hx hl hin ex h2 h4 hi hne hlen => by
    have hg : ∀ (m : Nat) (v u : V), m ≠ 15 → σ[m]? = some (some v) → ((wipe σ [15]).set 15 (some u))[m]? = some (some v) := fun m v u hm hv => by
      show ((σ.set 15 none).set 15 (some u))[m]? = some (some v)
      rw [List.getElem?_set_ne (Ne.symm hm), List.getElem?_set_ne (Ne.symm hm)]
      exact hv
    refine ev_one (j := 15) (vs := [15]) hn1 hn4 hsub hperm hin (by omega) (er_var h4 (mn_L mn_S _ _ _ _ ex rw7) (mn_L mn_S)) (fun v => ?_) fun kd v H8 e8 hk4 hkin hv => ?_
    · show ((σ.set 15 none).set 15 (some v)).set 15 none = σ.set 15 none
      rw [List.set_set, List.set_set]
    · subst hv
      refine er_c2 (R := rCo) (S := rX) (a := (n, ps)) (b := l.reverse ++ kd) (er_var (hg 2 _ _ (by omega) h2) (mn_co _ _ _ _ (ex.trans e8) rc7) mn_co) (er_catX (er_rev (er_var (a := l) (hg i _ _ hne hi) rfl mn_S) (by omega)) (er_var (a := kd) ?_ rfl mn_S) (by rw [List.length_reverse]; omega) fun i j H1 Q h1 h2 => ⟨i, j, rfl, rfl, h1, h2⟩) mn_co (kinok _ ?_ ?_)
      · show ((σ.set 15 none).set 15 (some (.str (tx kd))))[15]? = some (some (.str (tx kd)))
        rw [List.set_set, List.getElem?_set_self (by omega)]
      · rw [List.length_append, List.length_reverse]
        omega
      · intro x hx
        rcases List.mem_append.mp hx with hx | hx
        · exact hin x (List.mem_reverse.mp hx)
        · exact hkin x hx
  have hgat : EvR (tCall spGat [] E0 (tCons (tVar 2) (tCons (tVar 5) tNil))) [some (.ref a), some (.ref r), some vc, some (.str (tx (alph n))), some vw, some (.str (tx wd)), none, none, none, none, none, none, none, none, none, none, none] H7 rBl (gathersF ps wd) :=
    er_c2 (R := rCo) (S := rX) (a := (n, ps)) (b := wd) (er_var rfl rc7 mn_co) (er_var (a := wd) rfl rfl mn_S) mn_co ⟨hC, hw1, by omega, hwin⟩
  refine q_when (b := false) (et_ali (v := .bl (gathersF ps wd)) (ev_er hgat) (behind_ok 5 wd _ H7 (by omega) hwin (Ex.refl _) rfl rfl rfl (by omega) rfl) (.bl _)) (fun z => nomatch z) fun _ H8 e8 => ?_
  have rc8 := mn_co _ _ _ _ e8 rc7
  have rw8 := mn_L mn_S _ _ _ _ e8 rw7
  have ro8 := ro7.ex e8
  -- the due word
  refine r_set (R := rOX) (a := if countOf ps (alph n) = 1 then some [] else none) (er_if (k := decide (V.int (ys.length : Int) = V.int 1)) (et_test (ev_op (?hlen) ev_c (rv_eq rfl))) (fun hb => ?_) fun hb => ?_) fun vd H9 e9 rd => ?_
  case hlen =>
    intro Hx ex Q q
    obtain ⟨pw, us, rfl, hpw, hus⟩ := rw8
    refine ⟨_, rfl, pw, us, rfl, .inl (sq_of (ex _ _ hpw)), ?_⟩
    rw [hus.length]
    exact q Hx (Ex.refl _)
  · have : ys.length = 1 := by
      have := V.int.inj (of_decide_eq_true hb)
      omega
    rw [if_pos (by omega)]
    exact fun Hx ex Q q => q _ Hx (Ex.refl _) rfl
  · have : ys.length ≠ 1 := fun z => of_decide_eq_false hb (by rw [z]; rfl)
    rw [if_neg (by omega)]
    exact fun Hx ex Q q => q _ Hx (Ex.refl _) rfl
  have rc9 := mn_co _ _ _ _ e9 rc8
  have rw9 := mn_L mn_S _ _ _ _ e9 rw8
  have ro9 := ro8.ex e9
  have e79 := e8.trans e9
  -- the loops over all words
  refine r_fold (R := rN) (as := List.range' 1 (n - 1)) (dueL (n, ps)) (if countOf ps (alph n) = 1 then some [] else none)
    (fun d σ' H' => Ex H9 H' ∧ ∃ v y7 y8, σ' = [some (.ref a), some (.ref r), some vc, some (.str (tx (alph n))), some vw, some (.str (tx wd)), some v, y7, y8, none, none, none, none, none, none, none, none] ∧ rOX H' v d)
    (ei_rng2 (lo := 1) (n := n) (ea_cons ev_c (ea_cons (ev_vr (er_fst (er_var rfl rc9 mn_co) mn_S fun _ _ => ev_c) rfl) ea_nil)) (by omega) (by omega)) tg_name (fun H2 e2 => ⟨e2, vd, none, none, rfl, rd⟩) (fun H2 e2 d m x σ' H' e3 hm rm hJ => ?_) (fun d σ' H' H'' e h => ?_) fun σ' H10 e10 hJ => ?_
  · obtain ⟨eH, v, y7, y8, rfl, rv⟩ := hJ
    cases rm
    cases rv
    have hm2 : 1 ≤ m ∧ m < n := by
      have := List.mem_range'_1.mp hm
      omega
    have hI : EvI (iList K (tIf (tTest (tOp rIsN (tVar 6) (tC .non))) (tCall spAlw [] E0 (tCons (tVar 2) (tCons (tVar 7) tNil))) (tLst tNil))) [some (.ref a), some (.ref r), some vc, some (.str (tx (alph n))), some vw, some (.str (tx wd)), some (oxV d), some (.int (m : Int)), y8, none, none, none, none, none, none, none, none] H' rX (if d = none then wrdTo (alph n) m else []) := by
      cases d with
      | none =>
        exact ei_list (er_if (k := true) (et_isN (ev_var (v := .non) rfl)) (fun _ => er_c2 (R := rCo) (S := rN) (a := (n, ps)) (b := m) (er_var rfl (mn_co _ _ _ _ eH rc9) mn_co) (er_var rfl rfl mn_S) mn_co ⟨hn4, by omega⟩) fun z => nomatch z) mn_S
      | some l0 =>
        exact ei_list (er_if (k := false) (et_isN (ev_var (v := .str (tx l0)) rfl)) (fun z => nomatch z) fun _ => er_lst0) mn_S
    refine r_fold1 (R := rX) (as := if d = none then wrdTo (alph n) m else []) (dueW ps) d (fun d' σ'' H'' => Ex H9 H'' ∧ ∃ y8, σ'' = [some (.ref a), some (.ref r), some vc, some (.str (tx (alph n))), some vw, some (.str (tx wd)), some (oxV d'), some (.int (m : Int)), y8, none, none, none, none, none, none, none, none])
      hI tg_name (fun H2 e2 => ⟨eH.trans e2, y8, rfl⟩) (fun H2 e2 d' t x σ'' H'' e4 ht rt hJ => ?_) (fun d σ' H' H'' e h => ?_) fun σ'' H'' e4 hJ => ?_
    · obtain ⟨eH2, y8, rfl⟩ := hJ
      cases rt
      have ht2 : t ∈ wrdTo (alph n) m := by
        by_cases hd : d = none
        · rw [if_pos hd] at ht
          exact ht
        · rw [if_neg hd] at ht
          cases ht
      obtain ⟨t1, t2⟩ := mem_wrdTo _ _ _ ht2
      refine r_set1 (R := rOX) (a := dueW ps d' t) (er_if (k := decide (d' = none) && gathersF ps t) (et_and (a := decide (d' = none)) (et_is (et_isN (ev_var (v := oxV d') rfl)) ?_) fun _ => et_test (behind_ok 8 t _ H'' (by omega) t2 (e79.trans eH2) rfl rfl rfl (by omega) rfl)) (fun hb => ?_) fun hb => ?_) fun v6 H5 e5 r6 => ⟨e4.trans e5, eH2.trans e5, some (.str (tx t)), ?_⟩
      · cases d' with
        | none => rfl
        | some l0 => rfl
      · have : dueW ps d' t = some t := by
          unfold dueW
          rw [if_pos hb]
        rw [this]
        exact er_var rfl rfl mn_S
      · have : dueW ps d' t = d' := by
          unfold dueW
          rw [if_neg (by rw [hb]; decide)]
        rw [this]
        exact er_var rfl rfl mn_S
      · cases r6
        rfl
    · obtain ⟨eH2, y8, rfl⟩ := h
      exact ⟨eH2.trans e, y8, rfl⟩
    · obtain ⟨eH2, y8, rfl⟩ := hJ
      exact ⟨e3.trans e4, eH2, _, _, _, rfl, rfl⟩
  · obtain ⟨eH, v, y7, y8, rfl, rv⟩ := h
    exact ⟨eH.trans e, v, y7, y8, rfl, rv⟩
  obtain ⟨_, v, y7, y8, rfl, rv⟩ := hJ
  cases rv
  have rc10 := mn_co _ _ _ _ e10 rc9
  have ro10 := ro9.ex e10
  -- the shortest gathering word
  have hsho := short_ok hn1 hn4 hsub
  have hdue : (List.range' 1 (n - 1)).foldl (dueL (n, ps)) (if countOf ps (alph n) = 1 then some [] else none) = shortF (n, ps) := hsho.symm
  rw [hdue]
  refine q_when (b := false) (et_ali (v := oxV (shortF (n, ps))) (n := match shortF (n, ps) with | none => "NoneType" | some l => "str") (ev_er (f := oxV) (er_c1 (R := rCo) (a := (n, ps)) (er_var rfl rc10 mn_co) hC)) (ev_var rfl) ?_) (fun z => nomatch z) fun _ H11 e11 => ?_
  · cases shortF (n, ps) with
    | none => exact .non
    | some l => exact .str _
  have rc11 := mn_co _ _ _ _ e11 rc10
  have ro11 := ro10.ex e11
  have hlots : lotsF n = allSets n := lots_all n hn4
  have erlot : ∀ {σ : L2.St} {Hx : Hp}, rCo Hx vc (n, ps) → σ[2]? = some (some vc) → EvR (tCall spLot [] E0 (tCons (tOp (rIxT K) (tVar 2) (tC (.int 0))) tNil)) σ Hx (rL rX) (allSets n) := fun hc h2 => by
    rw [← hlots]
    exact er_c1 (R := rN) (a := n) (er_imp (er_fst (er_var h2 hc mn_co) mn_S fun _ _ => ev_c) fun _ _ _ r => r) hn4
  generalize oxV (shortF (n, ps)) = v6
  -- the letters that are drawn
  refine ⟨_, rfl, ?_⟩
  refine erlot rc11 rfl H11 (Ex.refl _) _ fun vl H12 e12 rl12 => ?_
  obtain ⟨pl, ul, rfl, hpl, hul⟩ := rl12
  have ro12 := ro11.ex e12
  have rc12 := mn_co _ _ _ _ e12 rc11
  have h16 := allSets_len hn4
  have hne : 1 ≤ (allSets n).length := List.length_pos_iff.mpr (List.ne_nil_of_mem (alph_set n hn4).1)
  refine ⟨r, pl, a, ns, ul, allSets n, rfl, row_ne ro12 hpl hul (fun b z => by cases z), ro12, hpl, hul, hne, by omega, fun vL l H13 eb13 ro13 hl rl => ⟨_, _, rfl, ?_⟩⟩
  cases rl
  obtain ⟨xs12, hx12⟩ := ro12.lst
  have rc13 := mt_co _ _ _ _ (eb13.tp hx12) rc12
  show tSeq _ _ _ [some (.ref a), some (.ref r), some vc, some (.str (tx (alph n))), some vw, some (.str (tx wd)), some v6, y7, y8, some (.str (tx l)), some (.int 0), none, none, none, none, none, none] H13
  have hlC := (sets_ok n hn4 l hl)
  have hl4 : l.length ≤ 4 := by
    have := hlC.1
    omega
  -- the signed count
  refine r_fold (R := rX) (as := allSets n) (shStep (n, ps) l) 0 (fun c σ' H' => Ex H13 H' ∧ ∃ y11 y12 y13, σ' = [some (.ref a), some (.ref r), some vc, some (.str (tx (alph n))), some vw, some (.str (tx wd)), some v6, y7, y8, some (.str (tx l)), some (.int c), y11, y12, y13, none, none, none])
    (ei_list (erlot rc13 rfl) mn_S) tg_name (fun H2 e2 => ⟨e2, _, _, _, rfl⟩) (fun H2 e2 c t x σ' H' e3 ht rt hJ => ?_) (fun c σ' H' H'' e h => ?_) fun σ' H14 e14 hJ => ?_
  · obtain ⟨eH, y11, y12, y13, rfl⟩ := hJ
    cases rt
    obtain ⟨s1, s2, s3, s4, s5, s6⟩ := sets_ok n hn4 t ht
    have rcc := mn_co _ _ _ _ eH rc13
    have htest := ev_eq0 (K := K) (σ := [some (.ref a), some (.ref r), some vc, some (.str (tx (alph n))), some vw, some (.str (tx wd)), some v6, y7, y8, some (.str (tx l)), some (.int c), some (.str (tx t)), y12, y13, none, none, none]) (H := H') (R := rC) (d := fun c : Nat => PyData.str ⟨#[c]⟩) (bs := l.filter fun x => !decide (x ∈ t))
      (er_is (er_lc (R := rC) (S := rC) (as := l) (up := fun x _ σ => σ.set 16 (some x)) (vs := [16]) (g := gName 16) (t := tTest (tOp rNotInS (tVar 16) (tVar 11))) (te := tVar 16) (fun x => !decide (x ∈ t)) (fun x => x) (ei_str (te := tVar 9) (er_var (a := l) rfl rfl mn_S)) mt_S (by omega) tg_name
        fun a z H4 e4 ha ra => ⟨rfl, et_test (ev_ni (er_var rfl ra mn_S) (er_var (a := t) rfl rfl mn_S)), fun _ => er_var rfl ra mn_S⟩) (by rw [List.map_id'])) mn_S (fun H v b r => by cases r; exact .str _) (sh_signs fun c hc => by have := hcd c (hlC.2.1 c (List.mem_filter.mp hc).1); omega)
    rw [cov_filt] at htest
    refine s_when (et_test htest) (fun hcv H5 e5 => ?_) fun hcv H5 e5 => ?_
    · have hrl : (restF n t).length ≤ 60 := by
        have := (sets_ok n hn4 _ s4).1
        omega
      refine q_asg (ev_lenK hn1 hn4 hsub s4 s6 hps (er_var rfl (mn_co _ _ _ _ e5 rcc) mn_co) (er_join ev_c (er_is (er_lc (R := rC) (S := rC) (as := alph n) (fun x => !decide (x ∈ t)) (fun x => x) (ei_str (er_var (a := alph n) rfl rfl mn_S)) mt_S (by rw [alph_len]; omega) tg_name
        fun a z H4 e4 ha ra => ⟨rfl, et_test (ev_ni (er_var rfl ra mn_S) (er_var (a := t) rfl rfl mn_S)), fun _ => er_var rfl ra mn_S⟩) (by rw [List.map_id']; rfl)) (by omega))) fun H6 e6 => ?_
      have hdif : ∀ {Hx : Hp} {y12 y13 : Option V}, Ev (tOp (rI0 fun i j => V.int (i - j)) (tCB (fun xs H Q => ∃ z, xs = [V.str z] ∧ z.length ≤ sizeLine ∧ Q (V.int z.length) H) (tCons (tVar 11) tNil)) (tCB (fun xs H Q => ∃ z, xs = [V.str z] ∧ z.length ≤ sizeLine ∧ Q (V.int z.length) H) (tCons (tVar 9) tNil)))
          [some (.ref a), some (.ref r), some vc, some (.str (tx (alph n))), some vw, some (.str (tx wd)), some v6, y7, y8, some (.str (tx l)), some (.int c), some (.str (tx t)), y12, y13, none, none, none] Hx (.int ((t.length : Int) - (l.length : Int))) := ev_op (ev_lenX (by omega) (ev_var rfl)) (ev_lenX (by omega) (ev_var rfl)) rv_I0
      refine q_asg (v := .int (((t.length : Int) - (l.length : Int)) - ((t.length : Int) - (l.length : Int)) / 2 * 2)) (ev_op hdif (ev_op (ev_op hdif ev_c (rv_I ⟨by show (0 : Int) < 2; omega, by show (2 : Int) < 1073741824; omega⟩)) ev_c (rv_I (wide_mul (a := 40) (b := 40) (by omega) (by decide) (by omega) (by omega) (by omega)))) rv_I0) fun H7 e7 => ?_
      have hodd : ((t.length : Int) - (l.length : Int)) - ((t.length : Int) - (l.length : Int)) / 2 * 2 = ((t.length : Int) - (l.length : Int)) % 2 := by omega
      rw [hodd]
      have hsh : shStep (n, ps) l c t = c + (if ((t.length : Int) - (l.length : Int)) % 2 = 0 then ((countOf ps (restF n t) : Nat) : Int) else -((countOf ps (restF n t) : Nat) : Int)) := by
        unfold shStep
        rw [if_pos hcv]
      rw [hsh]
      refine s_asg (v := .int (c + (if ((t.length : Int) - (l.length : Int)) % 2 = 0 then ((countOf ps (restF n t) : Nat) : Int) else -((countOf ps (restF n t) : Nat) : Int)))) (ev_op (ev_var rfl) (ev_if (v := .int (if ((t.length : Int) - (l.length : Int)) % 2 = 0 then ((countOf ps (restF n t) : Nat) : Int) else -((countOf ps (restF n t) : Nat) : Int))) (et_test (ev_op (ev_var rfl) ev_c (rv_eq rfl))) (fun h => ?_) fun h => ?_) rv_I0) fun H8 e8' => ⟨e3.trans (e5.trans (e6.trans (e7.trans e8'))), eH.trans (e5.trans (e6.trans (e7.trans e8'))), some (.str (tx t)), some (.int (countOf ps (restF n t) : Nat)), some (.int (((t.length : Int) - (l.length : Int)) % 2)), rfl⟩
      · rw [if_pos (V.int.inj (of_decide_eq_true h))]
        exact ev_var rfl
      · rw [if_neg (fun z => of_decide_eq_false h (congrArg V.int z))]
        have := ev_op (ta := tC (.int 0)) (tb := tVar 12) (σ := [some (.ref a), some (.ref r), some vc, some (.str (tx (alph n))), some vw, some (.str (tx wd)), some v6, y7, y8, some (.str (tx l)), some (.int c), some (.str (tx t)), some (.int (countOf ps (restF n t) : Nat)), some (.int (((t.length : Int) - (l.length : Int)) % 2)), none, none, none]) (H := H7) ev_c (ev_var (v := .int (countOf ps (restF n t) : Nat)) rfl) (rv_I0 (g := fun i j => V.int (i - j)))
        rw [Int.zero_sub] at this
        exact this
    · have : shStep (n, ps) l c t = c := by
        unfold shStep
        rw [if_neg (by rw [hcv]; decide)]
      rw [this]
      exact ⟨e3.trans e5, eH.trans e5, _, _, _, rfl⟩
  · obtain ⟨eH, y11, y12, y13, rfl⟩ := h
    exact ⟨eH.trans e, y11, y12, y13, rfl⟩
  obtain ⟨_, y11, y12, y13, rfl⟩ := hJ
  have rc14 := mn_co _ _ _ _ e14 rc13
  have ro14 := ro13.ex e14
  have hshare : (allSets n).foldl (shStep (n, ps) l) 0 = shareF (n, ps) l := rfl
  rw [hshare]
  refine q_when (b := false) (et_ali (v := .int (shareF (n, ps) l)) (ev_er (f := V.int) (er_c2 (R := rCo) (S := rX) (a := (n, ps)) (b := l) (er_var rfl rc14 mn_co) (er_var rfl rfl mn_S) mn_co (okS_of hC hl))) (ev_var rfl) (.int _)) (fun z => nomatch z) fun _ H15 e15 => ?_
  have rc15 := mn_co _ _ _ _ e15 rc14
  have ro15 := ro14.ex e15
  -- the length, the sums
  refine ⟨_, rfl, r, a, ns, 61, rfl, by omega, by omega, ro15, fun m H16 hm eb16 ro16 => ⟨_, _, rfl, ?_⟩⟩
  obtain ⟨xs15, hx15⟩ := ro15.lst
  have rc16 := mt_co _ _ _ _ (eb16.tp hx15) rc15
  show tSeq _ _ _ [some (.ref a), some (.ref r), some vc, some (.str (tx (alph n))), some vw, some (.str (tx wd)), some v6, some (.int (m : Int)), y8, some (.str (tx l)), some (.int (shareF (n, ps) l)), y11, y12, y13, some (.int 0), none, none] H16
  refine r_fold (R := rX) (as := allSets n) (fun acc s => acc + shareF (n, ps) s * ((s.length ^ m : Nat) : Int)) 0 (fun c σ' H' => Ex H16 H' ∧ ∃ y11, σ' = [some (.ref a), some (.ref r), some vc, some (.str (tx (alph n))), some vw, some (.str (tx wd)), some v6, some (.int (m : Int)), y8, some (.str (tx l)), some (.int (shareF (n, ps) l)), y11, y12, y13, some (.int c), none, none])
    (ei_list (erlot rc16 rfl) mn_S) tg_name (fun H2 e2 => ⟨e2, _, rfl⟩) (fun H2 e2 c t x σ' H' e3 ht rt hJ => ?_) (fun c σ' H' H'' e h => ?_) fun σ' H17 e17 hJ => ?_
  · obtain ⟨eH, y11, rfl⟩ := hJ
    cases rt
    have ht4 := allSets_mem hn4 t ht
    have hp2 := pow_lt ht4 (show m ≤ 60 by omega)
    refine s_asg (v := .int (c + shareF (n, ps) t * ((t.length ^ m : Nat) : Int))) (ev_op (ev_var rfl) (ev_op (ev_vr (f := V.int) (er_c2 (R := rCo) (S := rX) (a := (n, ps)) (b := t) (er_var rfl (mn_co _ _ _ _ eH rc16) mn_co) (er_var rfl rfl mn_S) mn_co (okS_of hC ht)) rfl)
      (ev_vr (f := fun n : Nat => V.int (n : Int)) (er_c2 (R := rN) (S := rN) (a := t.length) (b := m) (er_lenX (by omega) (er_var (a := t) rfl rfl mn_S)) (er_var rfl rfl mn_S) mn_S ⟨ht4, by omega⟩) rfl) (rv_I ?_)) rv_I0) fun H7 e7 => ⟨e3.trans e7, eH.trans e7, some (.str (tx t)), rfl⟩
    have h1 := shareF_abs (n, ps) t hn4
    refine wide_mul (a := 130) (b := 130) ?_ ?_ (by omega) (by omega) (by omega)
    · have : (1024 : Nat) < 2 ^ 130 := by decide +kernel
      omega
    · rw [Int.natAbs_natCast]
      exact hp2
  · obtain ⟨eH, y11, rfl⟩ := h
    exact ⟨eH.trans e, y11, rfl⟩
  obtain ⟨_, y11, rfl⟩ := hJ
  have rc17 := mn_co _ _ _ _ e17 rc16
  have hstay : (allSets n).foldl (fun acc s => acc + shareF (n, ps) s * ((s.length ^ m : Nat) : Int)) 0 = stayF (n, ps) m := rfl
  rw [hstay]
  exact s_ret (ev_ali (v := .int (stayF (n, ps) m)) (ev_er (f := V.int) (er_c2 (R := rCo) (S := rN) (a := (n, ps)) (b := m) (er_var rfl rc17 mn_co) (er_var rfl rfl mn_S) mn_co ⟨hC, by omega⟩)) (ev_var rfl) (.int _)) fun H18 _ => q H18
end
end F1
set_option Elab.async false
set_option linter.all false
set_option maxRecDepth 100000
set_option maxHeartbeats 0
/-! the head: the top by one run, its facts by names -/
namespace F1
open PySem PySem.Spec PyProof.Rows L2
def dOf (i : Nat) (x : Str) : He.DefD := ⟨(x, none), x, x, defArgs (top i), defBody (top i), defScope (top i), [], []⟩
def headA : List He.DefD := [dOf 10 "whole", dOf 11 "within", dOf 12 "need_number", dOf 13 "tuple_of", dOf 14 "need_company", dOf 15 "is_word", dOf 16 "need_word", dOf 17 "is_set", dOf 18 "need_set", dOf 19 "power", dOf 21 "all_sets", dOf 23 "count_joined", dOf 24 "count_of", dOf 26 "gathers", dOf 27 "shortest_gathering", dOf 28 "staying", dOf 29 "share_of", dOf 30 "share"]
def headB : List He.DefD := [dOf 32 "_law_taken", dOf 33 "_law_pairs", dOf 34 "_law_company", dOf 35 "_law_pick", dOf 36 "_law_firsts", dOf 37 "_law_friend", dOf 38 "_law_kind", dOf 39 "_law_orders", dOf 40 "_law_kinds_of", dOf 41 "_law_word", dOf 42 "_law_alike", dOf 43 "_law_all_words", dOf 44 "_law_sets", dOf 45 "_law_lots", dOf 46 "_law_power", dOf 47 "law"]
def headFn : List He.DefD := headA ++ headB
def faA : List He.Fa := [.glo "whole", .glo "within", .glo "need_number", .glo "tuple_of", .glo "need_company", .glo "is_word", .glo "need_word", .glo "is_set", .glo "need_set", .glo "power", .glo "all_sets", .glo "count_joined", .glo "count_of", .glo "gathers", .glo "shortest_gathering", .glo "staying", .glo "share_of", .glo "share"]
def faB : List He.Fa := [.glo "_law_taken", .glo "_law_pairs", .glo "_law_company", .glo "_law_pick", .glo "_law_firsts", .glo "_law_friend", .glo "_law_kind", .glo "_law_orders", .glo "_law_kinds_of", .glo "_law_word", .glo "_law_alike", .glo "_law_all_words", .glo "_law_sets", .glo "_law_lots", .glo "_law_power", .glo "law"]
def faC : List He.Fa := [.free "isinstance", .free "int", .free "bool", .free "tuple", .free "len", .free "enumerate", .free "all", .free "str", .free "range", .free "sorted", .free "list", .free "any", .free "set", .free "min", .free "max", .str "ALPHABET" "abcdefg", .int "MOST_LETTERS" 7, .int "MOST_WORD" 60]
def headFa : List He.Fa := faA ++ faB ++ faC
def looseA : List Str := ["OnceError", "BadCompany", "BadWord", "BadLetters", "BadNumber", "ALPHABET", "MOST_LETTERS", "MOST_WORD", "whole", "within", "need_number", "tuple_of", "need_company", "is_word", "need_word", "is_set", "need_set", "power", "all_sets", "count_joined"]
def looseB : List Str := ["count_of", "gathers", "shortest_gathering", "staying", "share_of", "share", "_law_taken", "_law_pairs", "_law_company", "_law_pick", "_law_firsts", "_law_friend", "_law_kind", "_law_orders", "_law_kinds_of", "_law_word", "_law_alike", "_law_all_words", "_law_sets", "_law_lots", "_law_power"]
def loose : List Str := looseA ++ looseB
abbrev Rw : PySem.W.OpenRow := PySem.W.OpenLaw.row PySem.Challenge.rw_oncewords_k39_whole_gathering_and_stayin
abbrev hk : PySem.W.Hook := He.hookD 4 headFa headFn
def ob (s : PySem.W.SharedT) : He.AlD := He.obsDG 4 headFa headFn (HandSHeadRun.getT s)
theorem ob_eq (s : PySem.W.SharedT) : ob s = hk.obs s.abs := He.obsDG_eq (HandSHeadRun.getT_eq s)
theorem run (w : World) : HandSHeadRun.RunEq Rw (PySem.W.view Rw.prog [47]) hk ob 6000 loose w := by
  intro os
  kernel_rfl
end F1
set_option Elab.async false
set_option linter.all false
set_option maxRecDepth 100000
set_option maxHeartbeats 4000000
namespace F1
open PySem PySem.Spec PyProof.Rows L2
theorem fun_of {K : PySem.W.Frag} {x : Str} {st : Stmt} {f : Addr} {fd : FuncData} (F : FunD K x x (defArgs st) (defBody st) (defScope st) [] [] f fd) : Fun K x x st f fd := by
  obtain ⟨oc, od, dV, kV, doc, pm, an, cdv, ct, osl, e, lk, hcd, hd, hk⟩ := F.ex
  have e2 : dV = .none := by
    rcases hd with ⟨_, h⟩ | ⟨h, _⟩
    · exact h
    · exact absurd rfl h
  subst e2
  exact ⟨⟨oc, od, kV, doc, pm, an, cdv, ct, osl, e, lk, hcd⟩, F.kp⟩
theorem facts {P : Program} {w : World} {K : PySem.W.Frag} {h : Heap} {mg : Str → Option Value} {f : Addr} (X : K.In h) (G : h.Ns mainGlobals mg) (hfa : mg ("law" : Str) = some (.ref f)) (c : He.SaysD headFa headFn K) :
    ∃ fd : FuncData, (∀ (s : Shared) (v : Value), BindsTo s fd ⟨[v], []⟩ [("_law_script", v)]) ∧ ∀ base : Heap, K.In base → base.Ns mainGlobals mg → FnOk P w K mg base CX0 12 f fd ["_law_script"] (spLaw K) := by
  obtain ⟨fd10, G10⟩ := c.def_ 0 (d := dOf 10 "whole") rfl
  have F10 : Fun K "whole" "whole" (top 10) _ fd10 := fun_of G10
  have m10 : mg "whole" = some (.ref (He.ga K "whole")) := He.glo_ok X G (c.fact 0 (f := .glo "whole") rfl)
  have b10 : Binds K fd10 ["value"] [] := F10.binds fun _ _ _ _ _ _ us hl => match us, hl with | [_], _ => rfl
  obtain ⟨fd11, G11⟩ := c.def_ 1 (d := dOf 11 "within") rfl
  have F11 : Fun K "within" "within" (top 11) _ fd11 := fun_of G11
  have m11 : mg "within" = some (.ref (He.ga K "within")) := He.glo_ok X G (c.fact 1 (f := .glo "within") rfl)
  have b11 : Binds K fd11 ["value", "low", "high"] [] := F11.binds fun _ _ _ _ _ _ us hl => match us, hl with | [_, _, _], _ => rfl
  obtain ⟨fd12, G12⟩ := c.def_ 2 (d := dOf 12 "need_number") rfl
  have F12 : Fun K "need_number" "need_number" (top 12) _ fd12 := fun_of G12
  have m12 : mg "need_number" = some (.ref (He.ga K "need_number")) := He.glo_ok X G (c.fact 2 (f := .glo "need_number") rfl)
  have b12 : Binds K fd12 ["value", "low", "high"] [] := F12.binds fun _ _ _ _ _ _ us hl => match us, hl with | [_, _, _], _ => rfl
  obtain ⟨fd13, G13⟩ := c.def_ 3 (d := dOf 13 "tuple_of") rfl
  have F13 : Fun K "tuple_of" "tuple_of" (top 13) _ fd13 := fun_of G13
  have m13 : mg "tuple_of" = some (.ref (He.ga K "tuple_of")) := He.glo_ok X G (c.fact 3 (f := .glo "tuple_of") rfl)
  have b13 : Binds K fd13 ["value", "low", "high"] [] := F13.binds fun _ _ _ _ _ _ us hl => match us, hl with | [_, _, _], _ => rfl
  obtain ⟨fd14, G14⟩ := c.def_ 4 (d := dOf 14 "need_company") rfl
  have F14 : Fun K "need_company" "need_company" (top 14) _ fd14 := fun_of G14
  have m14 : mg "need_company" = some (.ref (He.ga K "need_company")) := He.glo_ok X G (c.fact 4 (f := .glo "need_company") rfl)
  have b14 : Binds K fd14 ["company"] [] := F14.binds fun _ _ _ _ _ _ us hl => match us, hl with | [_], _ => rfl
  obtain ⟨fd15, G15⟩ := c.def_ 5 (d := dOf 15 "is_word") rfl
  have F15 : Fun K "is_word" "is_word" (top 15) _ fd15 := fun_of G15
  have m15 : mg "is_word" = some (.ref (He.ga K "is_word")) := He.glo_ok X G (c.fact 5 (f := .glo "is_word") rfl)
  have b15 : Binds K fd15 ["company", "value", "most"] [] := F15.binds fun _ _ _ _ _ _ us hl => match us, hl with | [_, _, _], _ => rfl
  obtain ⟨fd16, G16⟩ := c.def_ 6 (d := dOf 16 "need_word") rfl
  have F16 : Fun K "need_word" "need_word" (top 16) _ fd16 := fun_of G16
  have m16 : mg "need_word" = some (.ref (He.ga K "need_word")) := He.glo_ok X G (c.fact 6 (f := .glo "need_word") rfl)
  have b16 : Binds K fd16 ["company", "word"] [] := F16.binds fun _ _ _ _ _ _ us hl => match us, hl with | [_, _], _ => rfl
  obtain ⟨fd17, G17⟩ := c.def_ 7 (d := dOf 17 "is_set") rfl
  have F17 : Fun K "is_set" "is_set" (top 17) _ fd17 := fun_of G17
  have m17 : mg "is_set" = some (.ref (He.ga K "is_set")) := He.glo_ok X G (c.fact 7 (f := .glo "is_set") rfl)
  have b17 : Binds K fd17 ["company", "value"] [] := F17.binds fun _ _ _ _ _ _ us hl => match us, hl with | [_, _], _ => rfl
  obtain ⟨fd18, G18⟩ := c.def_ 8 (d := dOf 18 "need_set") rfl
  have F18 : Fun K "need_set" "need_set" (top 18) _ fd18 := fun_of G18
  have m18 : mg "need_set" = some (.ref (He.ga K "need_set")) := He.glo_ok X G (c.fact 8 (f := .glo "need_set") rfl)
  have b18 : Binds K fd18 ["company", "letters"] [] := F18.binds fun _ _ _ _ _ _ us hl => match us, hl with | [_, _], _ => rfl
  obtain ⟨fd19, G19⟩ := c.def_ 9 (d := dOf 19 "power") rfl
  have F19 : Fun K "power" "power" (top 19) _ fd19 := fun_of G19
  have m19 : mg "power" = some (.ref (He.ga K "power")) := He.glo_ok X G (c.fact 9 (f := .glo "power") rfl)
  have b19 : Binds K fd19 ["base", "exponent"] [] := F19.binds fun _ _ _ _ _ _ us hl => match us, hl with | [_, _], _ => rfl
  obtain ⟨fd21, G21⟩ := c.def_ 10 (d := dOf 21 "all_sets") rfl
  have F21 : Fun K "all_sets" "all_sets" (top 21) _ fd21 := fun_of G21
  have m21 : mg "all_sets" = some (.ref (He.ga K "all_sets")) := He.glo_ok X G (c.fact 10 (f := .glo "all_sets") rfl)
  have b21 : Binds K fd21 ["many"] [] := F21.binds fun _ _ _ _ _ _ us hl => match us, hl with | [_], _ => rfl
  obtain ⟨fd23, G23⟩ := c.def_ 11 (d := dOf 23 "count_joined") rfl
  have F23 : Fun K "count_joined" "count_joined" (top 23) _ fd23 := fun_of G23
  have m23 : mg "count_joined" = some (.ref (He.ga K "count_joined")) := He.glo_ok X G (c.fact 11 (f := .glo "count_joined") rfl)
  have b23 : Binds K fd23 ["pairs", "many"] [] := F23.binds fun _ _ _ _ _ _ us hl => match us, hl with | [_, _], _ => rfl
  obtain ⟨fd24, G24⟩ := c.def_ 12 (d := dOf 24 "count_of") rfl
  have F24 : Fun K "count_of" "count_of" (top 24) _ fd24 := fun_of G24
  have m24 : mg "count_of" = some (.ref (He.ga K "count_of")) := He.glo_ok X G (c.fact 12 (f := .glo "count_of") rfl)
  have b24 : Binds K fd24 ["company", "letters"] [] := F24.binds fun _ _ _ _ _ _ us hl => match us, hl with | [_, _], _ => rfl
  obtain ⟨fd26, G26⟩ := c.def_ 13 (d := dOf 26 "gathers") rfl
  have F26 : Fun K "gathers" "gathers" (top 26) _ fd26 := fun_of G26
  have m26 : mg "gathers" = some (.ref (He.ga K "gathers")) := He.glo_ok X G (c.fact 13 (f := .glo "gathers") rfl)
  have b26 : Binds K fd26 ["company", "word"] [] := F26.binds fun _ _ _ _ _ _ us hl => match us, hl with | [_, _], _ => rfl
  obtain ⟨fd27, G27⟩ := c.def_ 14 (d := dOf 27 "shortest_gathering") rfl
  have F27 : Fun K "shortest_gathering" "shortest_gathering" (top 27) _ fd27 := fun_of G27
  have m27 : mg "shortest_gathering" = some (.ref (He.ga K "shortest_gathering")) := He.glo_ok X G (c.fact 14 (f := .glo "shortest_gathering") rfl)
  have b27 : Binds K fd27 ["company"] [] := F27.binds fun _ _ _ _ _ _ us hl => match us, hl with | [_], _ => rfl
  obtain ⟨fd28, G28⟩ := c.def_ 15 (d := dOf 28 "staying") rfl
  have F28 : Fun K "staying" "staying" (top 28) _ fd28 := fun_of G28
  have m28 : mg "staying" = some (.ref (He.ga K "staying")) := He.glo_ok X G (c.fact 15 (f := .glo "staying") rfl)
  have b28 : Binds K fd28 ["company", "length"] [] := F28.binds fun _ _ _ _ _ _ us hl => match us, hl with | [_, _], _ => rfl
  obtain ⟨fd29, G29⟩ := c.def_ 16 (d := dOf 29 "share_of") rfl
  have F29 : Fun K "share_of" "share_of" (top 29) _ fd29 := fun_of G29
  have m29 : mg "share_of" = some (.ref (He.ga K "share_of")) := He.glo_ok X G (c.fact 16 (f := .glo "share_of") rfl)
  have b29 : Binds K fd29 ["company", "letters"] [] := F29.binds fun _ _ _ _ _ _ us hl => match us, hl with | [_, _], _ => rfl
  obtain ⟨fd30, G30⟩ := c.def_ 17 (d := dOf 30 "share") rfl
  have F30 : Fun K "share" "share" (top 30) _ fd30 := fun_of G30
  have m30 : mg "share" = some (.ref (He.ga K "share")) := He.glo_ok X G (c.fact 17 (f := .glo "share") rfl)
  have b30 : Binds K fd30 ["company", "letters"] [] := F30.binds fun _ _ _ _ _ _ us hl => match us, hl with | [_, _], _ => rfl
  obtain ⟨fd32, G32⟩ := c.def_ 18 (d := dOf 32 "_law_taken") rfl
  have F32 : Fun K "_law_taken" "_law_taken" (top 32) _ fd32 := fun_of G32
  have m32 : mg "_law_taken" = some (.ref (He.ga K "_law_taken")) := He.glo_ok X G (c.fact 18 (f := .glo "_law_taken") rfl)
  have b32 : Binds K fd32 ["_law_row", "_law_many"] [] := F32.binds fun _ _ _ _ _ _ us hl => match us, hl with | [_, _], _ => rfl
  obtain ⟨fd33, G33⟩ := c.def_ 19 (d := dOf 33 "_law_pairs") rfl
  have F33 : Fun K "_law_pairs" "_law_pairs" (top 33) _ fd33 := fun_of G33
  have m33 : mg "_law_pairs" = some (.ref (He.ga K "_law_pairs")) := He.glo_ok X G (c.fact 19 (f := .glo "_law_pairs") rfl)
  have b33 : Binds K fd33 ["_law_many"] [] := F33.binds fun _ _ _ _ _ _ us hl => match us, hl with | [_], _ => rfl
  obtain ⟨fd34, G34⟩ := c.def_ 20 (d := dOf 34 "_law_company") rfl
  have F34 : Fun K "_law_company" "_law_company" (top 34) _ fd34 := fun_of G34
  have m34 : mg "_law_company" = some (.ref (He.ga K "_law_company")) := He.glo_ok X G (c.fact 20 (f := .glo "_law_company") rfl)
  have b34 : Binds K fd34 ["_law_row", "_law_most"] [] := F34.binds fun _ _ _ _ _ _ us hl => match us, hl with | [_, _], _ => rfl
  obtain ⟨fd35, G35⟩ := c.def_ 21 (d := dOf 35 "_law_pick") rfl
  have F35 : Fun K "_law_pick" "_law_pick" (top 35) _ fd35 := fun_of G35
  have m35 : mg "_law_pick" = some (.ref (He.ga K "_law_pick")) := He.glo_ok X G (c.fact 21 (f := .glo "_law_pick") rfl)
  have b35 : Binds K fd35 ["_law_row", "_law_things"] [] := F35.binds fun _ _ _ _ _ _ us hl => match us, hl with | [_, _], _ => rfl
  obtain ⟨fd36, G36⟩ := c.def_ 22 (d := dOf 36 "_law_firsts") rfl
  have F36 : Fun K "_law_firsts" "_law_firsts" (top 36) _ fd36 := fun_of G36
  have m36 : mg "_law_firsts" = some (.ref (He.ga K "_law_firsts")) := He.glo_ok X G (c.fact 22 (f := .glo "_law_firsts") rfl)
  have b36 : Binds K fd36 ["_law_word_here"] [] := F36.binds fun _ _ _ _ _ _ us hl => match us, hl with | [_], _ => rfl
  obtain ⟨fd37, G37⟩ := c.def_ 23 (d := dOf 37 "_law_friend") rfl
  have F37 : Fun K "_law_friend" "_law_friend" (top 37) _ fd37 := fun_of G37
  have m37 : mg "_law_friend" = some (.ref (He.ga K "_law_friend")) := He.glo_ok X G (c.fact 23 (f := .glo "_law_friend") rfl)
  have b37 : Binds K fd37 ["_law_company_here", "_law_one", "_law_other"] [] := F37.binds fun _ _ _ _ _ _ us hl => match us, hl with | [_, _, _], _ => rfl
  obtain ⟨fd38, G38⟩ := c.def_ 24 (d := dOf 38 "_law_kind") rfl
  have F38 : Fun K "_law_kind" "_law_kind" (top 38) _ fd38 := fun_of G38
  have m38 : mg "_law_kind" = some (.ref (He.ga K "_law_kind")) := He.glo_ok X G (c.fact 24 (f := .glo "_law_kind") rfl)
  have b38 : Binds K fd38 ["_law_company_here", "_law_word_here"] [] := F38.binds fun _ _ _ _ _ _ us hl => match us, hl with | [_, _], _ => rfl
  obtain ⟨fd39, G39⟩ := c.def_ 25 (d := dOf 39 "_law_orders") rfl
  have F39 : Fun K "_law_orders" "_law_orders" (top 39) _ fd39 := fun_of G39
  have m39 : mg "_law_orders" = some (.ref (He.ga K "_law_orders")) := He.glo_ok X G (c.fact 25 (f := .glo "_law_orders") rfl)
  have b39 : Binds K fd39 ["_law_letters"] [] := F39.binds fun _ _ _ _ _ _ us hl => match us, hl with | [_], _ => rfl
  obtain ⟨fd40, G40⟩ := c.def_ 26 (d := dOf 40 "_law_kinds_of") rfl
  have F40 : Fun K "_law_kinds_of" "_law_kinds_of" (top 40) _ fd40 := fun_of G40
  have m40 : mg "_law_kinds_of" = some (.ref (He.ga K "_law_kinds_of")) := He.glo_ok X G (c.fact 26 (f := .glo "_law_kinds_of") rfl)
  have b40 : Binds K fd40 ["_law_company_here", "_law_letters"] [] := F40.binds fun _ _ _ _ _ _ us hl => match us, hl with | [_, _], _ => rfl
  obtain ⟨fd41, G41⟩ := c.def_ 27 (d := dOf 41 "_law_word") rfl
  have F41 : Fun K "_law_word" "_law_word" (top 41) _ fd41 := fun_of G41
  have m41 : mg "_law_word" = some (.ref (He.ga K "_law_word")) := He.glo_ok X G (c.fact 27 (f := .glo "_law_word") rfl)
  have b41 : Binds K fd41 ["_law_row", "_law_company_here", "_law_most"] [] := F41.binds fun _ _ _ _ _ _ us hl => match us, hl with | [_, _, _], _ => rfl
  obtain ⟨fd42, G42⟩ := c.def_ 28 (d := dOf 42 "_law_alike") rfl
  have F42 : Fun K "_law_alike" "_law_alike" (top 42) _ fd42 := fun_of G42
  have m42 : mg "_law_alike" = some (.ref (He.ga K "_law_alike")) := He.glo_ok X G (c.fact 28 (f := .glo "_law_alike") rfl)
  have b42 : Binds K fd42 ["_law_found", "_law_due"] [] := F42.binds fun _ _ _ _ _ _ us hl => match us, hl with | [_, _], _ => rfl
  obtain ⟨fd43, G43⟩ := c.def_ 29 (d := dOf 43 "_law_all_words") rfl
  have F43 : Fun K "_law_all_words" "_law_all_words" (top 43) _ fd43 := fun_of G43
  have m43 : mg "_law_all_words" = some (.ref (He.ga K "_law_all_words")) := He.glo_ok X G (c.fact 29 (f := .glo "_law_all_words") rfl)
  have b43 : Binds K fd43 ["_law_company_here", "_law_length"] [] := F43.binds fun _ _ _ _ _ _ us hl => match us, hl with | [_, _], _ => rfl
  obtain ⟨fd44, G44⟩ := c.def_ 30 (d := dOf 44 "_law_sets") rfl
  have F44 : Fun K "_law_sets" "_law_sets" (top 44) _ fd44 := fun_of G44
  have m44 : mg "_law_sets" = some (.ref (He.ga K "_law_sets")) := He.glo_ok X G (c.fact 30 (f := .glo "_law_sets") rfl)
  have b44 : Binds K fd44 ["_law_many"] [] := F44.binds fun _ _ _ _ _ _ us hl => match us, hl with | [_], _ => rfl
  obtain ⟨fd45, G45⟩ := c.def_ 31 (d := dOf 45 "_law_lots") rfl
  have F45 : Fun K "_law_lots" "_law_lots" (top 45) _ fd45 := fun_of G45
  have m45 : mg "_law_lots" = some (.ref (He.ga K "_law_lots")) := He.glo_ok X G (c.fact 31 (f := .glo "_law_lots") rfl)
  have b45 : Binds K fd45 ["_law_many"] [] := F45.binds fun _ _ _ _ _ _ us hl => match us, hl with | [_], _ => rfl
  obtain ⟨fd46, G46⟩ := c.def_ 32 (d := dOf 46 "_law_power") rfl
  have F46 : Fun K "_law_power" "_law_power" (top 46) _ fd46 := fun_of G46
  have m46 : mg "_law_power" = some (.ref (He.ga K "_law_power")) := He.glo_ok X G (c.fact 32 (f := .glo "_law_power") rfl)
  have b46 : Binds K fd46 ["_law_base", "_law_times"] [] := F46.binds fun _ _ _ _ _ _ us hl => match us, hl with | [_, _], _ => rfl
  obtain ⟨fd47, G47⟩ := c.def_ 33 (d := dOf 47 "law") rfl
  have F47 : Fun K "law" "law" (top 47) _ fd47 := fun_of G47
  have m47 : mg "law" = some (.ref (He.ga K "law")) := He.glo_ok X G (c.fact 33 (f := .glo "law") rfl)
  have b47 : Binds K fd47 ["_law_script"] [] := F47.binds fun _ _ _ _ _ _ us hl => match us, hl with | [_], _ => rfl
  have z_isinstance : mg "isinstance" = none := He.free_ok X G (c.fact 34 (f := .free "isinstance") rfl)
  have z_int : mg "int" = none := He.free_ok X G (c.fact 35 (f := .free "int") rfl)
  have z_bool : mg "bool" = none := He.free_ok X G (c.fact 36 (f := .free "bool") rfl)
  have z_tuple : mg "tuple" = none := He.free_ok X G (c.fact 37 (f := .free "tuple") rfl)
  have z_len : mg "len" = none := He.free_ok X G (c.fact 38 (f := .free "len") rfl)
  have z_enumerate : mg "enumerate" = none := He.free_ok X G (c.fact 39 (f := .free "enumerate") rfl)
  have z_all : mg "all" = none := He.free_ok X G (c.fact 40 (f := .free "all") rfl)
  have z_str : mg "str" = none := He.free_ok X G (c.fact 41 (f := .free "str") rfl)
  have z_range : mg "range" = none := He.free_ok X G (c.fact 42 (f := .free "range") rfl)
  have z_sorted : mg "sorted" = none := He.free_ok X G (c.fact 43 (f := .free "sorted") rfl)
  have z_list : mg "list" = none := He.free_ok X G (c.fact 44 (f := .free "list") rfl)
  have z_any : mg "any" = none := He.free_ok X G (c.fact 45 (f := .free "any") rfl)
  have z_set : mg "set" = none := He.free_ok X G (c.fact 46 (f := .free "set") rfl)
  have z_min : mg "min" = none := He.free_ok X G (c.fact 47 (f := .free "min") rfl)
  have z_max : mg "max" = none := He.free_ok X G (c.fact 48 (f := .free "max") rfl)
  obtain ⟨tA, mA⟩ := He.str_ok X G (c.fact 49 (f := .str "ALPHABET" "abcdefg") rfl)
  obtain ⟨tL, mL⟩ := He.int_ok X G (c.fact 50 (f := .int "MOST_LETTERS" 7) rfl)
  obtain ⟨tW, mW⟩ := He.int_ok X G (c.fact 51 (f := .int "MOST_WORD" 60) rfl)
  have e := hfa.symm.trans m47
  cases e
  refine ⟨fd47, fun s v => (FunD.bindsA (ps := ["_law_script"]) G47 fun _ _ _ _ _ _ us hl => match us, hl with | [_], _ => rfl) s [v] rfl, fun base _ _ => ?_⟩
  have C10 : Cal P w K mg base 1 "whole" (He.ga K "whole") fd10 ["value"] spWhole := ⟨ok_whole (k := 0) F10 z_isinstance z_int z_bool, b10, F10.kp, m10⟩
  have C11 : Cal P w K mg base 2 "within" (He.ga K "within") fd11 ["value", "low", "high"] spWithin := ⟨ok_within (k := 0) F11 C10, b11, F11.kp, m11⟩
  have C12 : Cal P w K mg base 3 "need_number" (He.ga K "need_number") fd12 ["value", "low", "high"] spNum := ⟨ok_num (k := 0) F12 C11, b12, F12.kp, m12⟩
  have C13 : Cal P w K mg base 1 "tuple_of" (He.ga K "tuple_of") fd13 ["value", "low", "high"] spTup := ⟨ok_tup (k := 0) F13 z_isinstance z_tuple z_len, b13, F13.kp, m13⟩
  have C14 : Cal P w K mg base 3 "need_company" (He.ga K "need_company") fd14 ["company"] spCom := ⟨ok_com (k := 0) F14 C11 C13 mL z_enumerate z_all, b14, F14.kp, m14⟩
  have C15 : Cal P w K mg base 1 "is_word" (He.ga K "is_word") fd15 ["company", "value", "most"] spIsW := ⟨ok_isW (k := 0) F15 z_isinstance z_str z_len z_all mA, b15, F15.kp, m15⟩
  have C16 : Cal P w K mg base 2 "need_word" (He.ga K "need_word") fd16 ["company", "word"] spNeedW := ⟨ok_needW (k := 0) F16 C15 mW, b16, F16.kp, m16⟩
  have C17 : Cal P w K mg base 1 "is_set" (He.ga K "is_set") fd17 ["company", "value"] spIsS := ⟨ok_isS (k := 0) F17 z_isinstance z_str z_len z_all z_range mA, b17, F17.kp, m17⟩
  have C18 : Cal P w K mg base 2 "need_set" (He.ga K "need_set") fd18 ["company", "letters"] spNeedS := ⟨ok_needS (k := 0) F18 C17, b18, F18.kp, m18⟩
  have C19 : Cal P w K mg base 1 "power" (He.ga K "power") fd19 ["base", "exponent"] spPow := ⟨ok_pow (k := 0) F19 z_range, b19, F19.kp, m19⟩
  have C21 : Cal P w K mg base 1 "all_sets" (He.ga K "all_sets") fd21 ["many"] spSets := ⟨ok_sets (k := 0) F21 mA, b21, F21.kp, m21⟩
  have C23 : Cal P w K mg base 7 "count_joined" (He.ga K "count_joined") fd23 ["pairs", "many"] (spJ 6) := ⟨ok_J F23 b23 m23 z_sorted z_tuple z_list 6, b23, F23.kp, m23⟩
  have C24 : Cal P w K mg base 8 "count_of" (He.ga K "count_of") fd24 ["company", "letters"] spCnt := ⟨ok_cnt (k := 0) F24 C23 mA z_len, b24, F24.kp, m24⟩
  have C26 : Cal P w K mg base 4 "gathers" (He.ga K "gathers") fd26 ["company", "word"] spGat := ⟨ok_gat (k := 0) F26 C14 C16 mA z_any, b26, F26.kp, m26⟩
  have C27 : Cal P w K mg base 4 "shortest_gathering" (He.ga K "shortest_gathering") fd27 ["company"] spSho := ⟨ok_sho (k := 0) F27 C14 C21 mA z_all z_len, b27, F27.kp, m27⟩
  have C29 : Cal P w K mg base 9 "share_of" (He.ga K "share_of") fd29 ["company", "letters"] spShO := ⟨ok_shO (k := 0) F29 C21 C24 mA z_all z_len, b29, F29.kp, m29⟩
  have C28 : Cal P w K mg base 10 "staying" (He.ga K "staying") fd28 ["company", "length"] spSta := ⟨ok_sta (k := 0) F28 C14 C12 C21 C29 C19 mW z_len, b28, F28.kp, m28⟩
  have C30 : Cal P w K mg base 10 "share" (He.ga K "share") fd30 ["company", "letters"] spSha := ⟨ok_sha (k := 0) F30 C14 C18 C29, b30, F30.kp, m30⟩
  have C32 : Cal P w K mg base 1 "_law_taken" (He.ga K "_law_taken") fd32 ["_law_row", "_law_many"] (spTk K) := ⟨ok_tk (k := 0) F32 z_int z_len, b32, F32.kp, m32⟩
  have C33 : Cal P w K mg base 1 "_law_pairs" (He.ga K "_law_pairs") fd33 ["_law_many"] spPrs := ⟨ok_prs (k := 0) F33 z_range, b33, F33.kp, m33⟩
  have C34 : Cal P w K mg base 2 "_law_company" (He.ga K "_law_company") fd34 ["_law_row", "_law_most"] (spLCo K) := ⟨ok_lco (k := 0) F34 C32 C33 z_tuple, b34, F34.kp, m34⟩
  have C35 : Cal P w K mg base 2 "_law_pick" (He.ga K "_law_pick") fd35 ["_law_row", "_law_things"] (spPick K rN) := ⟨ok_pick (k := 0) mt_S F35 C32 z_len, b35, F35.kp, m35⟩
  have C36 : Cal P w K mg base 1 "_law_firsts" (He.ga K "_law_firsts") fd36 ["_law_word_here"] spFst := ⟨ok_fst (k := 0) F36 z_len z_range, b36, F36.kp, m36⟩
  have C37 : Cal P w K mg base 1 "_law_friend" (He.ga K "_law_friend") fd37 ["_law_company_here", "_law_one", "_law_other"] spFri := ⟨ok_fri (k := 0) F37 z_min z_max, b37, F37.kp, m37⟩
  have C38 : Cal P w K mg base 2 "_law_kind" (He.ga K "_law_kind") fd38 ["_law_company_here", "_law_word_here"] spKin := ⟨ok_kin (k := 0) F38 C36 C37 z_len z_range z_min, b38, F38.kp, m38⟩
  have C39 : Cal P w K mg base 1 "_law_orders" (He.ga K "_law_orders") fd39 ["_law_letters"] spOrd := ⟨ok_ord (k := 0) F39 z_len z_range z_sorted, b39, F39.kp, m39⟩
  have C40 : Cal P w K mg base 3 "_law_kinds_of" (He.ga K "_law_kinds_of") fd40 ["_law_company_here", "_law_letters"] spKds := ⟨ok_kds (k := 0) F40 C39 C38 z_sorted z_set, b40, F40.kp, m40⟩
  have C41 : Cal P w K mg base 2 "_law_word" (He.ga K "_law_word") fd41 ["_law_row", "_law_company_here", "_law_most"] (spWrd K) := ⟨ok_wrd (k := 0) F41 C32 z_range, b41, F41.kp, m41⟩
  have C42 : Cal P w K mg base 1 "_law_alike" (He.ga K "_law_alike") fd42 ["_law_found", "_law_due"] spAli := ⟨ok_ali (k := 0) F42 z_isinstance z_tuple z_list z_str z_int z_bool, b42, F42.kp, m42⟩
  have C43 : Cal P w K mg base 1 "_law_all_words" (He.ga K "_law_all_words") fd43 ["_law_company_here", "_law_length"] spAlw := ⟨ok_alw (k := 0) F43 z_range, b43, F43.kp, m43⟩
  have C44 : Cal P w K mg base 1 "_law_sets" (He.ga K "_law_sets") fd44 ["_law_many"] spSts := ⟨ok_sts (k := 0) F44 z_range, b44, F44.kp, m44⟩
  have C45 : Cal P w K mg base 2 "_law_lots" (He.ga K "_law_lots") fd45 ["_law_many"] spLot := ⟨ok_lot (k := 0) F45 C44, b45, F45.kp, m45⟩
  have C46 : Cal P w K mg base 1 "_law_power" (He.ga K "_law_power") fd46 ["_law_base", "_law_times"] spPow := ⟨ok_lpw (k := 0) F46 z_range, b46, F46.kp, m46⟩
  have C35x : Cal P w K mg base 2 "_law_pick" (He.ga K "_law_pick") fd35 ["_law_row", "_law_things"] (spPick K rX) := ⟨ok_pick (k := 0) mt_S F35 C32 z_len, b35, F35.kp, m35⟩
  have hD : Defs P w K mg base (fun i => match i with | 0 => He.ga K "gathers" | 1 => He.ga K "shortest_gathering" | 2 => He.ga K "share" | 3 => He.ga K "staying" | 4 => He.ga K "_law_taken" | 5 => He.ga K "_law_company" | 6 => He.ga K "_law_pick" | 7 => He.ga K "_law_kind" | 8 => He.ga K "_law_kinds_of" | 9 => He.ga K "_law_word" | 10 => He.ga K "_law_alike" | 11 => He.ga K "_law_all_words" | 12 => He.ga K "_law_lots" | 13 => He.ga K "_law_power" | _ => 0) (fun i => match i with | 0 => fd26 | 1 => fd27 | 2 => fd30 | 3 => fd28 | 4 => fd32 | 5 => fd34 | 6 => fd35 | 7 => fd38 | 8 => fd40 | 9 => fd41 | 10 => fd42 | 11 => fd43 | 12 => fd45 | 13 => fd46 | _ => fd47) :=
    ⟨C26, C27, C30, C28, C32, C34, C35, C35x, C38, C40, C41, C42, C43, C45, C46⟩
  exact ok_law F47 hD z_len z_set z_range
end F1
open PySem PySem.W PySem.Calls PyProof.Rows
theorem PySem.Challenge.cw_oncewords_k39_whole_gathering_and_stayin_holds : PySem.Challenge.rw_oncewords_k39_whole_gathering_and_stayin.Holds := by
  w_on; o_law
  refine HandSHeadRun.head_any (r := OpenLaw.row PySem.Challenge.rw_oncewords_k39_whole_gathering_and_stayin) (q := view (OpenLaw.row PySem.Challenge.rw_oncewords_k39_whole_gathering_and_stayin).prog [47]) (H := F1.hk) (ob := F1.ob) (M := 6000) (loose := F1.loose) (d := HandSHeadRun.topDef (OpenLaw.row PySem.Challenge.rw_oncewords_k39_whole_gathering_and_stayin).prog 47) (kwd := []) F1.ob_eq
    (by kernel_rfl) (fun s => by kernel_rfl) F1.run (by kernel_rfl) (by kernel_rfl) (by kernel_rfl) (by rfl) (by first | assumption | decide +kernel) (by decide +kernel) ⟨rfl, rfl, rfl, rfl, rfl, by decide +kernel⟩ ?hw ?hc
  case hw => w_witness2
  case hc =>
    refine L2.walk_ofE (l := PySem.Challenge.rw_oncewords_k39_whole_gathering_and_stayin) (n := 63) (k := 12) (x := "_law_script") (CX := L2.CX0) rfl (by decide) (by kernel_rfl) ⟨rfl, by decide, by decide⟩ ?F (fun _ _ _ _ z => z)
    intro w mg fa h Y G hmg0
    obtain ⟨K, KX, c⟩ := Y
    have hmg : mg ("law" : PySem.Str) = some (.ref fa) := by
      have e : (HandSHeadRun.topDef (OpenLaw.row PySem.Challenge.rw_oncewords_k39_whole_gathering_and_stayin).prog 47).name = ("law" : PySem.Str) := by kernel_rfl
      rw [← e]
      exact hmg0
    obtain ⟨fd, hb, hF⟩ := F1.facts (P := (PySem.Challenge.rw_oncewords_k39_whole_gathering_and_stayin).prog) (w := w) KX G hmg c
    exact ⟨K, fd, F1.spLaw K, KX, hb, fun H a ns hl _ hS => ⟨a, ns, rfl, hS, hl, fun _ => rfl⟩, hF⟩
