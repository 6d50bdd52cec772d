import PyProof.Rows.All
import Wide.All
import OpenK.AllK
import Wide.FinOn
import HandS.ForMost
import HandS.Zip
import HandS.Walk
import HandS.IsInst
import HandS.Evl
import HandS.Defaults
import HandS.Style
import KE.GoesEnum
import HandS.OwnEq
import HandS.More
import PyProof.ReprRoads
import PyProof.ReprLen
import PyProof.CallFns
import HandS.Words
import HandS.Small
import HandS.Nested
import HandS.ExcInit
import KE.KExcSuper
import KE.KSuper
import HandS.ExcField
import HandS.MakeKw
import HandS.ExcIs
import HandS.ExcValue
import KE.KExcIs
import HandS.MakeKwOnly
import KE.KIsAll
import KE.KTryMore
import HandS.OwnIter
import HandS.IterNext
import HandS.ClsMeth
import HandS.Star
import HandS.TupAny
import HandS.ExcOwn
import HandS.Strs
import HandS.SetFor
import HandS.Text
import HandS.Codes
import PyProof.ReprText
import HandS.ExcCtx
import HandS.WordsExc
import HandS.Hot
import HandS.HotCalls
import HandS.Comp
import HandS.Iter
import HandS.TryOnly
import KE.KUnpack
import HandS.Wide
import PySem.Challenge.RW_waypairs_k01_fields_and_kinds_made
set_option Elab.async false
set_option linter.all false
set_option maxRecDepth 100000
set_option maxHeartbeats 4000000
/-! enumerate over a tuple -/
namespace Way
open PySem PySem.Spec PyProof.Rows L2
set_option maxHeartbeats 1000000 in
theorem meets_enumerate_newT {v : Value} {o : Obj} {H : Heap → Prop} (B : Begins v o H) :
    Meets (Builtin.«enumerate.__new__» ⟨[.type "enumerate", v], []⟩) (fun _ R s => H s.heap ∧
      R (.ok (.ret (.ref (s.heap.push o).objs.size))) { s with heap := (s.heap.push o).push { cls := .type "enumerate", data := .fields #[.none, .bool false, .ref s.heap.objs.size, rawInt 0, .none, .none] } }) :=
  .of_wp fun prog w A R s h => by
    obtain ⟨hp, g, d, tk, os⟩ := s; obtain ⟨h1, h⟩ := h
    have hsub := sub_enumerate
    have q1 : ∀ {A' : Around} {E : Value → Shared → Prop} {Q : Value → Shared → Prop}, Q (.ref hp.objs.size) ⟨hp.push o, g, d, tk, os⟩ → wpAny (model prog w) A' (pyIter v) Q E ⟨hp, g, d, tk, os⟩ :=
      fun q => B.iter prog w _ _ ⟨hp, g, d, tk, os⟩ _ h1 q
    wp_walk using q1
    refine wpAny_stack_any fun st => wpAny_pure ?_
    split
    · rename_i c _ _ _ _ _
      cases (c == Value.type "enumerate")
      · wp_walk using q1
        exact ⟨_, rfl, h⟩
      · wp_walk using q1
        exact ⟨_, rfl, h⟩
    · wp_walk using q1
      exact ⟨_, rfl, h⟩
theorem enum_beginsT {prog : Program} {w : World} {A : Around} {E : Value → Shared → Prop} {s : Shared} {v : Value} {o : Obj} {H : Heap → Prop} {Q : Value → Shared → Prop} (B : Begins v o H) (h1 : H s.heap)
    (h : ∀ h', IsEnum h' (s.heap.objs.size + 1) s.heap.objs.size 0 .none → h'.get? s.heap.objs.size = some o → h'.objs.size = s.heap.objs.size + 2 →
      (∀ b o, s.heap.get? b = some o → h'.get? b = some o) → Q (.ref (s.heap.objs.size + 1)) { s with heap := h' }) :
    wpAny (model prog w) A (call (.type "enumerate") [v]) Q E s := by
  refine callType_new F.called_enumerate (by decide) (F.typeCall_enumerate_1 _) (F.newCall_enumerate_1 _) (fun obj => F.args_object_init_2 obj _) F.entry_enumerate_new
    (meets_enumerate_newT B) ⟨h1, ?_⟩
  have hz : (s.heap.push o).objs.size = s.heap.objs.size + 1 := Heap.size_push ..
  show _ ∧ _
  rw [hz]
  have he : IsEnum ((s.heap.push o).push { cls := .type "enumerate", data := .fields #[.none, .bool false, .ref s.heap.objs.size, rawInt 0, .none, .none] }) (s.heap.objs.size + 1) s.heap.objs.size 0 .none := by
    have := Heap.get?_push_size (s.heap.push o) (o := { cls := .type "enumerate", data := .fields #[.none, .bool false, .ref s.heap.objs.size, rawInt 0, .none, .none] }) rfl
    rw [hz] at this; exact this
  refine ⟨⟨_, he, rfl⟩, h _ he (Heap.get?_push_of_some _ (Heap.get?_push_size _ B.free)) (by rw [Heap.size_push, hz]) fun b o x => Heap.get?_push_of_some _ (Heap.get?_push_of_some _ x)⟩

/-- the tuple at a, each item in a new pair with its number -/
def IteT (K : PySem.W.Frag) (a : Addr) : It :=
  ⟨fun i H => ∃ (xs : List V) (x : V), SqT K H a xs ∧ xs[i]? = some x, fun i H v H' => ∃ T x, v = .ref T ∧ H T = none ∧ H' = upd H T (.tup [.int (i : Nat), x]) ∧ ∀ xs, SqT K H a xs → xs[i]? = some x, fun i H => ∃ xs : List V, SqT K H a xs ∧ xs.length ≤ i⟩
theorem apart_tupIter {h : Heap} {a it : Addr} {i : Nat} {its : Array Value} (ht : h.IsTuple a its) (hi : h.IsTupleIter it a i) : a ≠ it := by
  rintro rfl
  obtain ⟨o, ho, hc, _⟩ := ht
  obtain ⟨o', ho', hc', _⟩ := hi
  rw [ho] at ho'
  cases ho'
  rw [hc] at hc'
  exact absurd hc' (by decide)
theorem turn_enumT {P : Program} {w : World} {K : PySem.W.Frag} {elts : List Expr} {kk : Nat} {tpos : Pos} (a e it : Addr) :
    Turn P w K (.Tuple elts kk tpos) (IteT K a) [e, it] e (fun i h => (∃ old, IsEnum h e it ((i : Nat) : Int) old) ∧ h.IsTupleIter it a i ∧ e ≠ it) where
  mem := by simp
  obj := fun i h st b hb => by
    obtain ⟨⟨old, he⟩, ⟨o, ho, hc, hd⟩, _⟩ := st
    have e' : b = e ∨ b = it := by simpa using hb
    rcases e' with z | z
    · rw [z]; exact ⟨_, he, fun v q => nomatch q⟩
    · rw [z]; exact ⟨o, ho, fun v q => by rw [hd] at q; cases q⟩
  keep := fun i h h' st k => let ⟨⟨old, he⟩, hi, hne⟩ := st; ⟨⟨old, k e (by simp) _ he⟩, hi.at fun o q => k it (by simp) o q, hne⟩
  item := by
    intro X hP hw hK hc i pins s σ H E I hf st hg
    subst hP hw hK
    obtain ⟨⟨old, he⟩, hit, hne⟩ := st
    obtain ⟨xs, x, hq, hx⟩ := hg
    obtain ⟨its, rv, p, hz⟩ := I.tuple hq
    have p' : s.heap.IsTuple a its.toArray := p
    obtain ⟨u, hu, ru⟩ := rv.get hx
    have hai := apart_tupIter p' hit
    have hae : a ≠ e := by
      rintro rfl
      obtain ⟨o, ho, hc', _⟩ := p'
      rw [he] at ho
      cases ho
      exact absurd (show Value.type "enumerate" = Value.type "tuple" from hc') (by decide)
    have hel : e < s.heap.objs.size := Heap.lt_size he
    have hil : it < s.heap.objs.size := by obtain ⟨_, q, _⟩ := hit; exact Heap.lt_size q
    have hi : i < its.toArray.size := by
      have q := (List.getElem?_eq_some_iff.mp hu).1
      simpa using q
    refine wpAny_pyNext_enum_itemD (Draws.tuple (A := X.A.in1) (I.ok.hd hc) it a hai its.toArray) he ⟨hit, p'⟩ hi hne (by simp; exact ⟨hne, hae.symm⟩) fun y h' tk hP ho hs' hT hsz hk => ?_
    obtain ⟨hit', _⟩ := hs'
    have ey : y = u := by
      have hP' : its.toArray[i]? = some y := hP
      have hu' : its.toArray[i]? = some u := by simpa using hu
      rw [hu'] at hP'
      exact (Option.some.inj hP').symm
    subst ey
    refine ⟨_, rfl, wpAny_letOwnedTupleGo_enum (s := { s with heap := h', toks := tk + 1 }) ho fun h'' he' sb => ?_⟩
    have hT2 : h''.get? s.heap.objs.size = some { cls := .type "tuple", data := .seq #[.int i tk, y] } := (sb.2 _ (Nat.ne_of_gt hel)).trans hT
    have new : ObjOk X.prog X.w (upd H s.heap.objs.size (.tup [.int (i : Nat), x])) h'' s.heap.objs.size (.tup [.int (i : Nat), x]) :=
      ⟨by show 2 ≤ sizeLine; decide, [.int i tk, y], .cons ⟨_, rfl⟩ (.cons ru .nil), ⟨_, hT2, rfl, _, rfl⟩⟩
    have I1 : Inv X pins σ (upd H s.heap.objs.size (.tup [.int (i : Nat), x])) { s with heap := h'', toks := tk + 1 } :=
      I.turnedNew (ch := [e, it]) (fun b ob hb q => (sb.2 b (fun z => hb (by simp [z]))).trans (hk b ob (fun z => hb (by simp [z])) (fun z => hb (by simp [z])) q)) hf (Nat.le_refl _) new
    refine ⟨.ref s.heap.objs.size, _, I1, rfl, ⟨_, x, rfl, I.hok.fresh (Nat.le_refl _), rfl, fun ys hy => by rw [I.tuple_inj hy hq]; exact hx⟩, ⟨⟨y, ?_⟩, hit'.at fun o q => (sb.2 it (Ne.symm hne)).trans q, hne⟩, fun b hb => ?_⟩
    · have e1 : ((i + 1 : Nat) : Int) = (i : Int) + 1 := by omega
      rw [e1]; exact he'
    · have hb' : b < s.heap.objs.size := by
        have e' : b = e ∨ b = it := by simpa using hb
        rcases e' with z | z
        · rw [z]; exact hel
        · rw [z]; exact hil
      rw [upd_ne (Nat.ne_of_lt hb')]
      exact (hf b hb).1
  done := by
    intro X hP hw hK hc i pins s σ H E I hf st hg
    subst hP hw hK
    obtain ⟨⟨old, he⟩, hit, hne⟩ := st
    obtain ⟨xs, hq, hx⟩ := hg
    obtain ⟨its, rv, p, hz⟩ := I.tuple hq
    have p' : s.heap.IsTuple a its.toArray := p
    obtain ⟨f0, f1, f2, f3, f4, f5⟩ := hf it (by simp)
    have hl := rv.length
    have hT : s.TypeIs (.ref e) "enumerate" := ⟨_, he, rfl⟩
    unfold pyNext
    refine wpAny_bind (wpAny_attempt (wpAny_callSpecial?_slot (name := Str.ofString "__next__") hT F.slot_enumerate_next
      (wpAny_call_entry F.slot_enumerate_next hT F.entry_enumerate_next ?_ (F.args_enumerate_next_1 _))))
    show wpAny _ _ (field (.ref e) 2 >>= _) _ _ _
    refine wpAny_bind (wpAny_field he rfl (x := .ref it) rfl ?_)
    refine wpAny_bind (RZ.nextOf_tuple_end (I.ok.hd hc) hit p' (by simp; omega) fun h' x he' hx' => ?_)
    obtain ⟨o, ho, hc⟩ := hx'
    refine wpAny_bind (wpAny_isInstance (T := "StopIteration") (b := true) ⟨o, ho, hc⟩ isSubtype_stop ?_)
    exact wpAny_pure ⟨rfl, I.turned (t' := s.toks) (fun b o hb q => he' b o hb q) f0 f1 f3 f4 f5⟩
  self := fun A i s Q E st h => let ⟨⟨_, he⟩, _⟩ := st; wpAny_pyIter_enum he h
def iEnumT (K : PySem.W.Frag) (ta : TA) : TI := fun σ H R => ta σ H fun vs H1 => ∃ a xs, vs = [.ref a] ∧ SqT K H1 a xs ∧ R (IteT K a) H1
theorem pi_enumT {X : Cx} {e : Expr} {ta : TA} {p pos tpos : Pos} {elts : List Expr} {kk : Nat} (hg : Gl X "enumerate") (hm : X.mg "enumerate" = none) (ha : PA X [e] ta) (hs : starEach [e] X.env = [(false, eval e X.env)] := by rfl) :
    PI X (.Tuple elts kk tpos) (.Call (.Name "enumerate" p) [e] [] pos) (iEnumT X.K ta) := by
  refine ⟨fun pins s σ H R I h => ?_⟩
  refine Call_ (ld_blt I hg hm boot_enumerate (PyProof.Rows.callWith_type1 (thn (ha.run pos pins s σ H _ I h) fun us s1 ⟨vs, H1, I1, r1, q1⟩ => ?_) hs rfl))
  obtain ⟨a, xs, ex, hq, q⟩ := q1
  subst ex
  cases r1 with
  | cons r rr =>
    cases rr
    cases r
    obtain ⟨its, rv, p', hz⟩ := I1.tuple hq
    have p'' : s1.heap.IsTuple a its.toArray := p'
    refine enum_beginsT (begins_tuple a its.toArray) p'' fun h' he hit hsz hk => wpAny_pyIter_enum he ?_
    have I2 : Inv X pins σ H1 { s1 with heap := h' } := I1.kept (t' := s1.toks) hk
    refine ⟨s1.heap.objs.size + 1, [s1.heap.objs.size + 1, s1.heap.objs.size], _, _, H1, rfl, I2, turn_enumT a (s1.heap.objs.size + 1) s1.heap.objs.size, ⟨⟨.none, he⟩, ⟨_, hit, rfl, rfl⟩, Nat.succ_ne_self _⟩, fun b hb => ?_, q⟩
    have e' : b = s1.heap.objs.size + 1 ∨ b = s1.heap.objs.size := by simpa using hb
    have hle : s1.heap.objs.size ≤ b := by
      rcases e' with z | z
      · rw [z]; exact Nat.le_add_right _ _
      · rw [z]; exact Nat.le_refl _
    exact I1.fpOk hle (I1.hok.fresh hle)
theorem walk_enumT {K : PySem.W.Frag} {a : Addr} {xs : List V} : Walk (IteT K a) xs.length (fun H => SqT K H a xs) (YPair (fun i => some (.int (i : Nat))) (fun i => xs[i]?)) := by
  refine ⟨fun i _ hi q => ⟨xs, xs[i], q, by simp [hi]⟩, fun _ q => ⟨xs, q, Nat.le_refl _⟩, fun i H v H' _ q y => ?_⟩
  obtain ⟨T, x, h1, h2, h3, h4⟩ := y
  exact ⟨T, .int (i : Nat), x, h1, h2, h3, rfl, h4 xs q⟩

/-! f(k = v, ..): keywords alone -/
section
variable {X : Cx} {CX : CXT} {k : Nat} {f : Addr} {fd : FuncData} {ps ks : List Str} {sp : Sp} {x : Str} {kws : List Keyword} {tk : TA} {E : XK} {p pos : Pos} {g : List Value → List Value → List Value} {gV : List V → List V → List V}
theorem pe_callK0 (F : FnOk X.prog X.w X.K X.mg X.base CX k f fd ps sp) (hr : Room k X.A) (hg : Gl X x) (hm : X.mg x = some (.ref f)) (hk : PySem.W.keepIn X.K (.ref f) = true) (hb : KBinds X.K fd ps ks g gV) (hx : Passes CX X E)
    (hkw : PK X kws tk) (hall : (backToKw pos (keywordEach kws X.env)).all (·.1.isSome) = true := by rfl) (hks : (backToKw pos (keywordEach kws X.env)).filterMap (·.1) = ks := by rfl)
    (hdb : (x == ("__debug__" : Str)) = false := by decide)
    (hpl : ((backTo pos (starEach [] X.env)).any (·.1) || (backToKw pos (keywordEach kws X.env)).any (·.1.isNone)) = false := by rfl) :
    PE X (.Call (.Name x p) [] kws pos) (tCallK sp gV E tNil tk) := by
  refine ⟨fun pins s σ H Q I h => ?_⟩
  refine wpAny_Call_Name_kw (ld_glob I hg hm ?_ hdb)
  refine PySem.W.callWith_KW0 (h₀ := X.base) I.ok.mod.kin hk hall ?_ hpl
  refine thn (hkw.run pos pins s σ H _ I h) fun ws s2 ⟨zs, H2, I2, rz, q2⟩ => ⟨I2.kIn, ?_⟩
  rw [hks]
  exact run_fnk (us := []) (vs := []) F hr hb hx I2 .nil rz q2
end

/-! heaps -/
theorem Same.new {H H' : Hp} {p : Addr} {o : HO} (s : Same H H') (h : H p = none) : Same H (upd H' p o) := fun b u e => by
  rw [upd_ne (ne_of_none e h)]
  exact s b u e
theorem Same.new' {H H' : Hp} {p : Addr} {o : HO} (s : Same H H') (h : H' p = none) : Same H (upd H' p o) := Same.new s (s.free h)
theorem Same.tup {K : PySem.W.Frag} {H H' : Hp} {a : Addr} {xs : List V} (e : Same H H') (h : SqT K H a xs) : SqT K H' a xs := by
  rcases h with (h | ⟨o, h⟩) | h
  · exact .inl (.inl (e _ _ h))
  · exact .inl (.inr ⟨o, e _ _ h⟩)
  · exact .inr h
/-- all but the object at s is as it was -/
def Kp (s : Addr) (H H' : Hp) : Prop := ∀ b o, b ≠ s → H b = some o → H' b = some o
theorem Kp.refl (s : Addr) (H : Hp) : Kp s H H := fun _ _ _ h => h
theorem Kp.trans {s : Addr} {H H1 H2 : Hp} (a : Kp s H H1) (b : Kp s H1 H2) : Kp s H H2 := fun c o n h => b c o n (a c o n h)
theorem Kp.of {s : Addr} {H H' : Hp} (a : Same H H') : Kp s H H' := fun c o _ h => a c o h
theorem Kp.set {s : Addr} {H H' : Hp} {o : HO} (a : Kp s H H') : Kp s H (upd H' s o) := fun c u n h => by rw [upd_ne n]; exact a c u n h
theorem Kp.new {s p : Addr} {H H' : Hp} {o : HO} (a : Kp s H H') (n : H p = none) : Kp s H (upd H' p o) := fun c u nc h => by
  rw [upd_ne (ne_of_none h n)]; exact a c u nc h
theorem Kp.free {s p : Addr} {H H' : Hp} (a : Kp s H H') (ns : p ≠ s) (n : H' p = none) : H p = none := by
  cases q : H p with
  | none => rfl
  | some o => rw [a p o ns q] at n; cases n
theorem flat_ints (l : List Int) : (l.map V.int).all flatV = true := by
  induction l with
  | nil => rfl
  | cons a r ih => rw [List.map_cons, List.all_cons, ih]; rfl
theorem flat_strs (l : List Str) : (l.map V.str).all flatV = true := by
  induction l with
  | nil => rfl
  | cons a r ih => rw [List.map_cons, List.all_cons, ih]; rfl
theorem inV_ints (i : Int) (l : List Int) : inV (.int i) (l.map V.int) = l.contains i := by
  induction l with
  | nil => rfl
  | cons a r ih =>
    unfold inV at ih
    unfold inV
    rw [List.map_cons, List.any_cons, ih, List.contains_cons]
    congr 1
    show decide (a = i) = (i == a)
    by_cases h : a = i
    · subst h; simp
    · rw [decide_eq_false h]
      exact (beq_eq_false_iff_ne.mpr (fun q => h q.symm)).symm
/-! evaluation without effect -/
section
open Evl
variable {K : PySem.W.Frag} {H : Hp} {σ : L2.St} {t : TT} {te tl : TE}
theorem el_lcT {a : Addr} {xs : List V} {j : Nat} {vs : List Nat} (f : Nat → Bool) (v : Nat → V) (h : Ev tl σ H (.ref a)) (hx : SqT K H a xs) (hz : xs.length ≤ 40000) (hw : ∀ x, wipe ((wipe σ vs).set j (some x)) vs = wipe σ vs)
    (ht : ∀ (i : Nat) (x : V) H1, Ex H H1 → xs[i]? = some x → EvT t ((wipe σ vs).set j (some x)) H1 (f i)) (he : ∀ (i : Nat) (x : V) H1, Ex H H1 → xs[i]? = some x → f i = true → Ev te ((wipe σ vs).set j (some x)) H1 (v i)) :
    EvL (tLc (iTup K tl) (gName j) t te vs) σ H (given xs.length f v) := fun H0 e Q q => h H0 e _ fun H1 e1 => ⟨a, rfl, ⟨xs, ex_t (e.trans e1) hx⟩, fun Dl hD =>
  lc_tup (xs := xs) (Cw H1 f v Dl) ⟨hD, Ex.new hD, upd_same⟩ (fun i H' _ p => ex_t ((e.trans e1).trans p.2.1) hx) (fun i x H' hi p => ⟨hw x, cw_turn p (by have := (List.getElem?_eq_some_iff.mp hi).1; omega) (ht i x H1 (e.trans e1) hi) (fun hf => he i x H1 (e.trans e1) hi hf)⟩)
    (fun H' p => q Dl H' (fresh_back e1 p.1) (e1.trans p.2.1) p.2.2)⟩
theorem rv_isN {x : V} : RV (fun x y H Q => y = V.non ∧ Q (.bl (decide (x = V.non))) H) x .non H (.bl (decide (x = .non))) := fun H1 _ _ q => ⟨rfl, q H1 (Ex.refl H1)⟩
theorem rv_notN {x : V} : RV (fun x y H Q => y = V.non ∧ Q (.bl (!decide (x = V.non))) H) x .non H (.bl (!decide (x = .non))) := fun H1 _ _ q => ⟨rfl, q H1 (Ex.refl H1)⟩
theorem rc_isi {x c : V} {t u : Value} {b : Bool} (k : ClsV c u) (ty : ∀ H1, Ex H H1 → TyX K H1 x t) (e : PySem.W.kitOne K t u = some b) : RC (rIsi K) [x, c] H (.bl b) := fun H1 e1 _ q => ⟨x, c, t, u, b, rfl, k, ty H1 e1, e, q H1 (Ex.refl H1)⟩
theorem ty_tup {a : Addr} {xs : List V} (h : H a = some (.tup xs)) : ∀ H1, Ex H H1 → TyX K H1 (.ref a) (.type "tuple") := fun H1 e => .base (.tup (e _ _ h))
theorem ty_lst {a : Addr} {xs : List V} (h : H a = some (.lst xs)) : ∀ H1, Ex H H1 → TyX K H1 (.ref a) (.type "list") := fun H1 e => .base (.lst (e _ _ h))
theorem ty_bl {b : Bool} : ∀ H1, Ex H H1 → TyX K H1 (.bl b) (.type "bool") := fun H1 e => .base (.bl b)
theorem ty_int {i : Int} : ∀ H1, Ex H H1 → TyX K H1 (.int i) (.type "int") := fun H1 e => .base (.int i)
theorem ty_str {x : Str} : ∀ H1, Ex H H1 → TyX K H1 (.str x) (.type "str") := fun H1 e => .base (.str x)
theorem ty_non : ∀ H1, Ex H H1 → TyX K H1 .non (.type "NoneType") := fun H1 e => .base .non
theorem rc_lenL {p : Addr} {xs : List V} (h : SqL K H p xs) : RC (fun xs H Q => ∃ p ys, xs = [V.ref p] ∧ (SqL K H p ys ∨ SqT K H p ys) ∧ Q (.int ys.length) H) [.ref p] H (.int (xs.length : Int)) := fun H1 e _ q => ⟨p, xs, rfl, .inl (ex_l e h), q H1 (Ex.refl H1)⟩
theorem rc_lenT {p : Addr} {xs : List V} (h : SqT K H p xs) : RC (fun xs H Q => ∃ p ys, xs = [V.ref p] ∧ (SqL K H p ys ∨ SqT K H p ys) ∧ Q (.int ys.length) H) [.ref p] H (.int (xs.length : Int)) := fun H1 e _ q => ⟨p, xs, rfl, .inr (ex_t e h), q H1 (Ex.refl H1)⟩
theorem rv_eqD {x y : V} {d e : PyData} (h1 : ∀ H1, Ex H H1 → Dp K H1 x d) (h2 : ∀ H1, Ex H H1 → Dp K H1 y e) (s1 : SeqAt.shaped d = true) (s2 : SeqAt.shaped e = true) : RV (rEqD K) x y H (.bl (PyData.eqv d e)) :=
  fun H1 e1 _ q => ⟨d, e, h1 H1 e1, h2 H1 e1, s1, s2, q H1 (Ex.refl H1)⟩
theorem rv_neD {x y : V} {d e : PyData} (h1 : ∀ H1, Ex H H1 → Dp K H1 x d) (h2 : ∀ H1, Ex H H1 → Dp K H1 y e) (s1 : SeqAt.shaped d = true) (s2 : SeqAt.shaped e = true) : RV (rNeD K) x y H (.bl (!PyData.eqv d e)) :=
  fun H1 e1 _ q => ⟨d, e, h1 H1 e1, h2 H1 e1, s1, s2, q H1 (Ex.refl H1)⟩
theorem dp_bls : ∀ l : List Bool, DpAll K H (l.map V.bl) (l.map PyData.bool)
  | [] => .nil
  | b :: r => .cons (.bl b) (dp_bls r)
theorem dp_ints : ∀ l : List Int, DpAll K H (l.map V.int) (l.map PyData.int)
  | [] => .nil
  | b :: r => .cons (.int b) (dp_ints r)
theorem dp_strs : ∀ l : List Str, DpAll K H (l.map V.str) (l.map PyData.str)
  | [] => .nil
  | b :: r => .cons (.str b) (dp_strs r)
theorem dp_tupB {a : Addr} {l : List Bool} (h : H a = some (.tup (l.map V.bl))) : ∀ H1, Ex H H1 → Dp K H1 (.ref a) (.tuple (l.map PyData.bool)) := fun H1 e => .tup (SqT.of (e _ _ h)) (dp_bls l)
theorem dp_nil {a : Addr} (h : H a = some (.lst [])) : ∀ H1, Ex H H1 → Dp K H1 (.ref a) (.list []) := fun H1 e => .lst (SqL.of (e _ _ h)) .nil
end
/-! shapes of data -/
def Shp (n : Nat) (d : PyData) : Prop := d.canLay0 = true ∧ d.depth ≤ n
theorem shp_all {n : Nat} : ∀ {ds : List PyData}, (∀ d ∈ ds, Shp n d) → PyData.canLayAll0 ds = true ∧ PyData.depthAll ds ≤ n
  | [], _ => ⟨rfl, Nat.zero_le _⟩
  | d :: r, h => by
    obtain ⟨h1, h2⟩ := shp_all (ds := r) fun x hx => h x (List.mem_cons_of_mem _ hx)
    obtain ⟨g1, g2⟩ := h d (List.mem_cons_self ..)
    refine ⟨by simp only [PyData.canLayAll0, g1, h1, Bool.and_self], ?_⟩
    simp only [PyData.depthAll]
    omega
theorem shp_tup {n : Nat} {ds : List PyData} (h : ∀ d ∈ ds, Shp n d) : Shp (n + 1) (.tuple ds) := by
  obtain ⟨h1, h2⟩ := shp_all h
  exact ⟨by simpa only [PyData.canLay0] using h1, by simp only [PyData.depth]; omega⟩
theorem shp_lst {n : Nat} {ds : List PyData} (h : ∀ d ∈ ds, Shp n d) : Shp (n + 1) (.list ds) := by
  obtain ⟨h1, h2⟩ := shp_all h
  exact ⟨by simpa only [PyData.canLay0] using h1, by simp only [PyData.depth]; omega⟩
theorem shp_bl {n : Nat} {b : Bool} : Shp n (.bool b) := ⟨by simp only [PyData.canLay0], by simp only [PyData.depth]; omega⟩
theorem shp_int {n : Nat} {b : Int} : Shp n (.int b) := ⟨by simp only [PyData.canLay0], by simp only [PyData.depth]; omega⟩
theorem shp_non {n : Nat} : Shp n .none := ⟨by simp only [PyData.canLay0], by simp only [PyData.depth]; omega⟩
theorem Shp.ok {n : Nat} {d : PyData} (h : Shp n d) (hn : n ≤ 64 := by decide) : SeqAt.shaped d = true := by
  unfold SeqAt.shaped
  rw [h.1, decide_eq_true (Nat.le_trans h.2 hn)]
  rfl
theorem Shp.same {n : Nat} {d : PyData} (h : Shp n d) : PyData.eqv d d = true := SeqAt.eqv_refl d h.1
theorem shp_bls (l : List Bool) : Shp 1 (.tuple (l.map PyData.bool)) := shp_tup fun d hd => by
  obtain ⟨b, _, rfl⟩ := List.mem_map.mp hd
  exact shp_bl
/-! the rules with K apart (for blocks of comprehensions) -/
section
variable {X : Cx}
theorem kk_isi {K : PySem.W.Frag} (h : X.K = K := by rfl) : CallR X (.builtin "isinstance") (rIsi K) := h ▸ call_isi
theorem kk_in {K : PySem.W.Frag} (h : X.K = K := by rfl) : OpR X (compareOp .In) (rIn K false) := h ▸ op_in_seq
theorem kk_notin {K : PySem.W.Frag} (h : X.K = K := by rfl) : OpR X (compareOp .NotIn) (rIn K true) := h ▸ op_notIn_seq
theorem kk_ixL {K : PySem.W.Frag} (h : X.K = K := by rfl) : IxR X (rIxL K) := h ▸ ix_list
theorem kk_ixT {K : PySem.W.Frag} (h : X.K = K := by rfl) : IxR X (rIxT K) := h ▸ ix_tup
theorem kk_eqD {K : PySem.W.Frag} (hu : X.A.units + 64 < cLine) (h : X.K = K := by rfl) : OpR X (compareOp .Eq) (rEqD K) := h ▸ op_eqD hu
theorem kk_neD {K : PySem.W.Frag} (hu : X.A.units + 64 < cLine) (h : X.K = K := by rfl) : OpR X (compareOp .NotEq) (rNeD K) := h ▸ op_neD hu
end
/-! keyword-only defaults alone, some of them written -/
theorem kbinds0 {K : PySem.W.Frag} {x qual : Str} {params : Arguments} {body : List Stmt} {scope : Scope} {kws : List (Str × V)} {f : Addr} {fd : FuncData} {ps : List Str} (F : FunD K x qual params body scope [] kws f fd) (n : Nat) (ks : List Str) (ms : List (Str × V)) (g : {α : Type} → List α → List α → List α → List α) (hk : kws ≠ []) (hms : ∀ q ∈ ms, q ∈ kws)
    (hrel : ∀ {vs mz zs : List V} {us mv ws : List Value}, Vals vs us → Vals mz mv → Vals zs ws → Vals (g vs mz zs) (g us mv ws))
    (h : ∀ (D : Addr) (doc pm : Value) (an : Option Addr) (cdv ct : Value) (us mv ws : List Value), us.length = n → mv.length = ms.length → ws.length = ks.length →
      KwChain D ((ms.map (·.1)).zip mv) (bindArgs (PySem.W.fnOf x qual params body scope .none (.ref D) doc pm an cdv ct) ⟨us, ks.zip ws⟩) (ps.zip (g us mv ws))) :
    ∃ mv : List Value, KBn K fd ps n ks (fun us ws => g us mv ws) (fun vs zs => g vs (ms.map (·.2)) zs) := by
  obtain ⟨oc, od, dV, kV, doc, pm, an, cdv, ct, osl, rfl, lk, hcd, hD, hK⟩ := F.ex
  rcases hD with ⟨_, rfl⟩ | ⟨e, _⟩
  · rcases hK with e | ⟨D, rfl, hq⟩
    · exact absurd e hk
    · obtain ⟨mv, hl, rk, hks⟩ := kwd_vals (ms := ms) fun q hm => hq q (hms q hm)
      refine ⟨mv, ⟨fun s us ws X l1 l2 => ?_, fun r1 r2 => hrel r1 rk r2⟩⟩
      exact BindsTo.of_looks fun M => KwChain.looks X hks (h D doc pm an cdv ct us mv ws l1 hl l2)
  · exact absurd rfl e
theorem okD {P : Program} {w : World} {K : PySem.W.Frag} {mg : Str → Option Value} {base : Heap} {x qual : Str} {params : Arguments} {body : List Stmt} {scope : Scope} {dvs : List V} {kws : List (Str × V)} {f : Addr} {fd : FuncData} {N ps : List Str} {k : Nat} {sp : Sp} (F : FunD K x qual params body scope dvs kws f fd) (S : FnScope N ps scope) (len : ∀ vs H Q E, sp vs H Q E → vs.length = ps.length)
    (hbody : ∀ (cdv : Value) (A : Around) (outer : List Env) (s : Shared) (H : Hp) (vs : List V) (Q : VK) (E : XK), Room k (A.deeper (envOfC qual scope s.heap.objs.size f cdv)) → sp vs H Q E →
      ∃ t, PSs (cxOf CX0 P w K mg base N qual scope f cdv A outer s H E).nox body t ∧ t { nx := fun _ H' => Q .non H', rt := Q } (start N vs) H) : FnOk P w K mg base CX0 (k + 1) f fd ps sp :=
  F.ok S len fun cdv A outer s H vs Q E hr h => let ⟨t, h1, h2⟩ := hbody cdv A outer s H vs Q E hr h; ⟨t, h1.nox, h2⟩
section
open Evl
theorem q_par {i j : Nat} {ta : TA} {tz : TS} {D : Ends} {σ : L2.St} {H : Hp} {v w : V} (h : EvA ta σ H [v, w]) (k : ∀ H1, Ex H H1 → tz D ((σ.set i (some v)).set j (some w)) H1) : tSeq (tPar i j ta) tz D σ H :=
  h H (Ex.refl H) _ fun H1 e => ⟨v, w, rfl, k H1 e⟩
theorem q_par3 {i j l : Nat} {ta : TA} {tz : TS} {D : Ends} {σ : L2.St} {H : Hp} {v w u : V} (h : EvA ta σ H [v, w, u]) (k : ∀ H1, Ex H H1 → tz D (((σ.set i (some v)).set j (some w)).set l (some u)) H1) : tSeq (tPar3 i j l ta) tz D σ H :=
  h H (Ex.refl H) _ fun H1 e => ⟨v, w, u, rfl, k H1 e⟩
end
end Way

/-! own == with either answer; in, not in, == of tuples over it; own in, len, operators -/
namespace Way
open PySem PySem.Spec PyProof.Rows L2
open AutoSeq1 (wpAny_loadPart')
open MeetsSeq MeetsSeq2 MeetsSeq3 SeqRoads2
section
variable {prog : Program} {w : World} {A : Around} {R : Result → Shared → Prop}
def ListC (prog : Program) (w : World) (A : Around) (E : Value → Shared → Prop) (l : Addr) (x : Value) (N : Nat) (e : Nat → Bool) (I : Shared → Prop) : Prop :=
  ∀ s, I s → ∃ (items : Array Value) (n : Nat), s.heap.get? l = some { cls := .type "list", data := .seq items n } ∧ items.size = N ∧
    ∀ i (h1 : i < items.size), wpAny (model prog w) A.in1 (eqBool items[i] x) (fun r s' => r = e i ∧ I s') E s
theorem contains_loopB (l : Addr) (x : Value) (N : Nat) (e : Nat → Bool) (b : Bool) (I : Shared → Prop) (hl : ListC prog w A (fun e s' => R (.error e) s') l x N e I)
    (hb : b = (List.range N).any e) (fin : ∀ s, I s → R (.ok (.ret (.bool b))) s) (k : Nat) :
    ∀ i : Nat, N - i = k → i ≤ N → (∀ j < i, e j = false) → ∀ s, I s →
      wpAny (model prog w) A.in1 (Builtin.«list.__contains__.loop» ⟨[.ref l, x, rawInt i], []⟩) (GQ.FinOf prog w A R) (fun e s' => R (.error e) s') s := by
  induction k with
  | zero =>
    intro i hk hi hf s h
    obtain ⟨items, n, hl1, hs1, _⟩ := hl _ h
    have hi' : i = N := by omega
    have hb' : b = false := by
      rw [hb, List.any_eq_false]
      intro j hj
      rw [hf j (by rw [hi']; exact List.mem_range.mp hj)]
      exact Bool.false_ne_true
    have hR := fin s h
    rw [hb'] at hR
    obtain ⟨hp, g, d, tk, os⟩ := s
    wp_walk using wpAny_loadPart' hl1
    have hi1 : items[((i : Nat) : Int).toNat]? = none := by simp; omega
    rw [hi1]
    wp_walk
    exact hR
  | succ k ih =>
    intro i hk hi hf s h
    obtain ⟨items, n, hl1, hs1, turn⟩ := hl _ h
    have hlt : i < items.size := by omega
    have ht := turn i hlt
    obtain ⟨hp, g, d, tk, os⟩ := s
    wp_walk using wpAny_loadPart' hl1
    have hi1 : items[((i : Nat) : Int).toNat]? = some items[i] := by simp [hlt]
    have hc : ((i : Int) + 1) = ((i + 1 : Nat) : Int) := by omega
    rw [hi1]
    refine wpAny_bind (wpAny_mono ht (fun r s2 h2 => ?_) fun _ _ x => x)
    obtain ⟨hr, h2⟩ := h2
    subst hr
    cases hb' : e i with
    | true =>
      have hbt : b = true := by
        rw [hb, List.any_eq_true]
        exact ⟨i, List.mem_range.mpr (by omega), hb'⟩
      have hR := fin s2 h2
      rw [hbt] at hR
      obtain ⟨hp2, g2, d2, tk2, os2⟩ := s2
      wp_walk
      exact hR
    | false =>
      have hrec := ih (i + 1) (by omega) (by omega) (fun j hj => by
        rcases Nat.lt_or_ge j i with q | q
        · exact hf j q
        · have : j = i := by omega
          rw [this]; exact hb') s2 h2
      obtain ⟨hp2, g2, d2, tk2, os2⟩ := s2
      wp_walk
      rw [hc]
      exact ⟨plainId_quiet plain_contains_loop _, codeAny_builtin entry_contains_loop (by
        rw [Around.under_plainId plain_contains_loop _]
        exact hrec)⟩
theorem list_containsB (l : Addr) (x : Value) (N : Nat) (e : Nat → Bool) (b : Bool) (I : Shared → Prop) (hl : ListC prog w A (fun e s' => R (.error e) s') l x N e I)
    (hb : b = (List.range N).any e) (fin : ∀ s, I s → R (.ok (.ret (.bool b))) s) {s : Shared} (h : I s) :
    wpAny (model prog w) A.in1 (Builtin.«list.__contains__» ⟨[.ref l, x], []⟩) (GQ.FinOf prog w A R) (fun e s' => R (.error e) s') s := by
  obtain ⟨items, n, hl1, hs1, _⟩ := hl _ h
  have hrec := contains_loopB (A := A) (R := R) l x N e b I hl hb fin _ 0 rfl (Nat.zero_le _) (fun j hj => absurd hj (Nat.not_lt_zero _)) s h
  obtain ⟨hp, g, d, tk, os⟩ := s
  wp_walk using wpAny_loadPart' hl1
  exact ⟨plainId_quiet plain_contains_loop _, codeAny_builtin entry_contains_loop (by
    rw [Around.under_plainId plain_contains_loop _]
    exact hrec)⟩
theorem in_listB {E : Value → Shared → Prop} {l : Addr} {x : Value} {N : Nat} {e : Nat → Bool} {I : Shared → Prop} {Q : Value → Shared → Prop} (hl : ListC prog w A E l x N e I) {s : Shared} (h : I s)
    (fin : ∀ s, I s → Q (.bool ((List.range N).any e)) s) : wpAny (model prog w) A (compareOp .In x (.ref l)) Q E s := by
  obtain ⟨items, n, hl1, hs1, _⟩ := hl _ h
  have hT : s.TypeIs (.ref l) "list" := ⟨_, hl1, rfl⟩
  show wpAny _ A (do return .bool (← contains (.ref l) x)) Q E s
  refine wpAny_bind (wpAny_contains_slot hT F.slot_list_contains (wpAny_mono (GQ.call_here (Q := fun v s' => ∃ b, v = .bool b ∧ Q (.bool b) s') F.slot_list_contains hT F.entry_list_contains (F.args_list_contains_2 _ _) (list_containsB l x N e _ I hl rfl (fun s' hs' => ⟨_, rfl, fin s' hs'⟩) h)) (fun v s' hv => ?_) fun _ _ e => e))
  obtain ⟨b, rfl, hq⟩ := hv
  exact wpAny_truthy_bool (wpAny_pure hq)
theorem notIn_listB {E : Value → Shared → Prop} {l : Addr} {x : Value} {N : Nat} {e : Nat → Bool} {I : Shared → Prop} {Q : Value → Shared → Prop} (hl : ListC prog w A E l x N e I) {s : Shared} (h : I s)
    (fin : ∀ s, I s → Q (.bool (!(List.range N).any e)) s) : wpAny (model prog w) A (compareOp .NotIn x (.ref l)) Q E s := by
  obtain ⟨items, n, hl1, hs1, _⟩ := hl _ h
  have hT : s.TypeIs (.ref l) "list" := ⟨_, hl1, rfl⟩
  show wpAny _ A (do return .bool (!(← contains (.ref l) x))) Q E s
  refine wpAny_bind (wpAny_contains_slot hT F.slot_list_contains (wpAny_mono (GQ.call_here (Q := fun v s' => ∃ b, v = .bool b ∧ Q (.bool (!b)) s') F.slot_list_contains hT F.entry_list_contains (F.args_list_contains_2 _ _) (list_containsB l x N e _ I hl rfl (fun s' hs' => ⟨_, rfl, fin s' hs'⟩) h)) (fun v s' hv => ?_) fun _ _ e => e))
  obtain ⟨b, rfl, hq⟩ := hv
  exact wpAny_truthy_bool (wpAny_pure hq)
end
/-! == of two tuples, item by item, either answer -/
section
variable {prog : Program} {w : World} {A : Around} {R : Result → Shared → Prop}
theorem tuple_eqB (l b : Addr) (items items2 : Array Value) (n n2 : Nat) (dd dd2 : Option Addr) (sl sl2 : Array (Option Value)) (e : Nat → Bool) (I : Shared → Prop)
    (turn : ∀ i (h1 : i < items.size) (h2 : i < items2.size) s, I s → wpAny (model prog w) A.in1 (eqBool items[i] items2[i]) (fun r s' => r = e i ∧ I s') (fun e s' => R (.error e) s') s)
    (fin : ∀ s, I s → R (.ok (.ret (.bool ((List.range (min items.size items2.size)).all e && items.size == items2.size)))) s) {s : Shared} (hl1 : s.heap.get? l = some { cls := .type "tuple", dict := dd, data := .seq items n, slots := sl }) (hb1 : s.heap.get? b = some { cls := .type "tuple", dict := dd2, data := .seq items2 n2, slots := sl2 }) (h : I s) :
    wpAny (model prog w) A.in1 (Builtin.«tuple.__eq__» ⟨[.ref l, .ref b], []⟩) (GQ.FinOf prog w A R) (fun e s' => R (.error e) s') s := by
  have f2 := AutoSeq1.sub_tuple_tuple
  have hZ : (items.toList.zip items2.toList).length = min items.size items2.size := by simp
  have h0 := h
  obtain ⟨hp, g, d, tk, os⟩ := s
  wp_walk using wpAny_loadPart' hl1, wpAny_loadPart' hb1, wpAny_forIn_list _ (fun rest b s' => b.1 = none ∧ ∃ i, rest = (items.toList.zip items2.toList).drop i ∧ i ≤ min items.size items2.size ∧ (∀ j < i, e j = true) ∧ I s') _
  case turn =>
    rintro ⟨y, x⟩ rest b s' ⟨hb', i, hz, hi, hf, hI⟩
    have hlt : i < (items.toList.zip items2.toList).length := by
      rcases Nat.lt_or_ge i (items.toList.zip items2.toList).length with h' | h'
      · exact h'
      · rw [List.drop_of_length_le h'] at hz; cases hz
    have h1 : i < items.size := by omega
    have h2 : i < items2.size := by omega
    rw [List.drop_eq_getElem_cons hlt] at hz
    injection hz with hyx hrest
    have hy : y = items[i] := by have := congrArg Prod.fst hyx; simpa using this
    have hx : x = items2[i] := by have := congrArg Prod.snd hyx; simpa using this
    subst hy hx
    refine wpAny_bind (wpAny_mono (turn i h1 h2 s' hI) (fun r s2 q2 => ?_) fun _ _ x => x)
    obtain ⟨hr, q2⟩ := q2
    subst hr
    cases hq : e i with
    | true =>
      wp_walk
      refine ⟨rfl, i + 1, hrest, by omega, fun j hj => ?_, q2⟩
      rcases Nat.lt_or_ge j i with q | q
      · exact hf j q
      · have : j = i := by omega
        rw [this]; exact hq
    | false =>
      have hR := fin s2 q2
      have hn : (List.range (min items.size items2.size)).all e = false := by
        rw [List.all_eq_false]
        exact ⟨i, List.mem_range.mpr (by omega), by rw [hq]; exact Bool.false_ne_true⟩
      rw [hn] at hR
      wp_walk
      simpa using hR
  case fin =>
    rintro ⟨b1, b2⟩ s' ⟨hb', i, hz, hi, hf, hI⟩
    simp only at hb'
    subst hb'
    have hge : min items.size items2.size ≤ i := by
      rcases Nat.lt_or_ge i (items.toList.zip items2.toList).length with h' | h'
      · rw [List.drop_eq_getElem_cons h'] at hz; cases hz
      · exact hZ ▸ h'
    have hR := fin s' hI
    have hn : (List.range (min items.size items2.size)).all e = true := by
      rw [List.all_eq_true]
      exact fun j hj => hf j (by have := List.mem_range.mp hj; omega)
    rw [hn] at hR
    wp_walk
    simpa [Builtin.Tuple.tupleCompareSizes] using hR
  case h =>
    exact ⟨rfl, 0, rfl, Nat.zero_le _, fun j hj => absurd hj (Nat.not_lt_zero _), h0⟩
theorem rc_tupB {E : Value → Shared → Prop} {l b : Addr} {items items2 : Array Value} {e : Nat → Bool} {Q : Value → Shared → Prop} (hu : A.units < cLine) (I : Shared → Prop) {s : Shared}
    (hl : s.heap.IsTuple l items) (hb : s.heap.IsTuple b items2)
    (turn : ∀ i (h1 : i < items.size) (h2 : i < items2.size) s, I s → wpAny (model prog w) A.in1 (eqBool items[i] items2[i]) (fun r s' => r = e i ∧ I s') E s)
    (fin : ∀ s, I s → Q (.bool ((List.range (min items.size items2.size)).all e && items.size == items2.size)) s) (h : I s) : wpAny (model prog w) A (richCompare .Eq (.ref l) (.ref b)) Q E s := by
  obtain ⟨⟨cls, dd, data, sl⟩, ho, hc, n, hd⟩ := id hl
  obtain ⟨⟨cls2, dd2, data2, sl2⟩, ho2, hc2, n2, hd2⟩ := id hb
  simp only at hc hd hc2 hd2
  subst hc hd hc2 hd2
  refine wpAny_richCompare_same_room (op := .Eq) ⟨_, ho, rfl⟩ ⟨_, ho2, rfl⟩ F.slot_tuple_eq (GQ.call_here F.slot_tuple_eq ⟨_, ho, rfl⟩ F.entry_tuple_eq (F.args_tuple_eq_2 _ _) ?_) hu
  exact tuple_eqB (R := wants (fun v s' => v ≠ .notImplemented ∧ Q v s') E) l b items items2 n n2 dd dd2 sl sl2 e I turn (fun s' q => ⟨(fun x => nomatch x), fin s' q⟩) ho ho2 h
end

/-! the answers of == as a relation -/
abbrev EqvB := V → V → Hp → Bool → Prop
def MonB (D : EqvB) : Prop := ∀ x y H H' b, Ext H H' → D x y H b → D x y H' b
def EqB (X : Cx) (n : Nat) (D : EqvB) : Prop :=
  ∀ (A : Around) (pins : List (Addr × Obj)) (s : Shared) (σ : L2.St) (H : Hp) (x y : V) (u v : Value) (b : Bool), Sub X n A → Inv X pins σ H s → RelV x u → RelV y v → D x y H b →
    wpAny (model X.prog X.w) A (eqBool u v) (fun r s' => r = b ∧ LoopI X pins σ H s') X.xe s
def RcB (X : Cx) (n : Nat) (D : EqvB) : Prop :=
  ∀ (A : Around) (pins : List (Addr × Obj)) (s : Shared) (σ : L2.St) (H : Hp) (x y : V) (u v : Value) (b : Bool), Sub X n A → Inv X pins σ H s → RelV x u → RelV y v → D x y H b →
    wpAny (model X.prog X.w) A (richCompare .Eq u v) (fun r s' => r = .bool b ∧ LoopI X pins σ H s') X.xe s
/-- an own ==: the promise -/
def spEqB (R : Addr → V → Hp → Bool → Prop) : Sp := fun vs H Q _ => ∃ a y b, vs = [.ref a, y] ∧ R a y H b ∧ ∀ H', Ext H H' → Q (.bl b) H'
/-- x an instance of C, y a value of a type that does not go first -/
def DOwn (K : PySem.W.Frag) (C : Addr) (R : Addr → V → Hp → Bool → Prop) : EqvB := fun x y H b => ∃ a dx fs t, x = .ref a ∧ H a = some (.ins C dx fs) ∧ TyX K H y t ∧ PySem.W.notFirst K C t = true ∧ R a y H b
section
variable {X : Cx} {n m : Nat} {D : EqvB}
theorem EqB.mono (h : EqB X n D) (hn : n ≤ m) : EqB X m D := fun A pins s σ H x y u v b sb => h A pins s σ H x y u v b (sb.mono hn)
theorem RcB.mono (h : RcB X n D) (hn : n ≤ m) : RcB X m D := fun A pins s σ H x y u v b sb => h A pins s σ H x y u v b (sb.mono hn)
/-- a call of a def within a builtin -/
theorem own_call {CX : CXT} {f : Addr} {fd : FuncData} {ps : List Str} {sp : Sp} {E : XK} {A : Around} {pins : List (Addr × Obj)} {s : Shared} {σ : L2.St} {H : Hp} {vs : List V} {us : List Value} {Q : VK} (F : FnOk X.prog X.w X.K X.mg X.base CX n f fd ps sp) (hb : Binds X.K fd ps []) (hx : Passes CX X E)
    (sb : Sub X n A) (I : Inv X pins σ H s) (r2 : Vals vs us) (hsp : sp vs H Q E) : wpAny (model X.prog X.w) A (call (.ref f) us) (EP X pins σ Q) X.xe s := by
  have e0 : Env0 X.prog X.w X.K X.mg X.base A X.stack s H := by
    have e := I.env0
    exact ⟨by rw [sb.fr]; exact e.frames, e.mod, e.bs, e.bsz, e.funs, e.frf, e.hok, e.bare⟩
  have hl := F.len _ _ _ _ hsp
  refine wpAny_call (codeAny_mono (F.run A X.stack s H ⟨us, []⟩ us vs _ E sb.room e0 (by
    have := hb s us I.kIn (by simpa [← r2.length] using hl)
    simpa using this) r2 hsp) fun r s' hq => ?_)
  cases r with
  | error e => exact hx pins σ H s e s' I hq
  | ok fl =>
    cases fl with
    | ret w => exact I.after hq
    | next => exact False.elim hq
    | brk => exact False.elim hq
    | cont => exact False.elim hq
theorem rcB_own {CX : CXT} {C f : Addr} {fd : FuncData} {ps : List Str} {R : Addr → V → Hp → Bool → Prop} {E : XK} (F : FnOk X.prog X.w X.K X.mg X.base CX n f fd ps (spEqB R))
    (hs : PySem.W.findIn X.K (.ref C) "__eq__" = some (some (.ref f))) (hf : PySem.W.isFn X.K (.ref f) = true) (hb : Binds X.K fd ps []) (hx : Passes CX X E) : RcB X n (DOwn X.K C R) := by
  intro A pins s σ H x y u v b sb I rx ry d
  obtain ⟨a, dx, fs, t, rfl, ha, ty, hn, hr⟩ := d
  cases rx
  obtain ⟨mA, J, _⟩ := ins_get I.hok ha
  obtain ⟨od, J, _⟩ := J.look
  obtain ⟨m, hF⟩ := I.fr
  obtain ⟨P, Z, p, hx'⟩ := kit_of I ry ty
  refine PySem.W.cmp_K (op := .Eq) (tb := t) sb.room.units0 hF I.ok.mod.kin J (Z.ty _ _ I.kIn p) hn hs hf ?_
  refine wpAny_mono (own_call (vs := [.ref a, y]) (Q := fun v H' => v = .bl b ∧ Ext H H') F hb hx sb I (.cons rfl (.cons ry .nil)) ⟨a, y, b, rfl, hr, fun H' e => ⟨rfl, e⟩⟩) (fun r s' hq => ?_) fun _ _ x => x
  obtain ⟨z, H', I', rz, ez, ex⟩ := hq
  subst ez
  cases rz
  exact ⟨rfl, H', I', ex⟩
/-- == inside a builtin: an object is equal to itself -/
theorem RcB.eqB (h : RcB X n D) (hr : ∀ x y H b, D x y H b → ∃ a c, x = .ref a ∧ y = .ref c ∧ (a = c → b = true)) : EqB X n D := by
  intro A pins s σ H x y u v b sb I rx ry d
  obtain ⟨a, c, rfl, rfl, hid⟩ := hr _ _ _ _ d
  cases rx
  cases ry
  by_cases hab : a = c
  · subst hab
    exact SeqAt.EqAt.same (A := A) (s := s) (.ref a) X.prog X.w X.xe _ ⟨(hid rfl).symm, H, I, Ext.rfl'⟩
  · refine GQ.eqBool_refG hab (wpAny_mono (h A pins s σ H (.ref a) (.ref c) _ _ b sb I rfl rfl d) (fun r s' q => ?_) fun _ _ x => x)
    obtain ⟨hr', q⟩ := q
    exact ⟨b, hr', rfl, q⟩
/-- x == y -/
def rEqB (D : EqvB) : R2 := fun x y H Q => ∃ b, D x y H b ∧ ∀ H', Ext H H' → Q (.bl b) H'
theorem op_eqB (h : RcB X n D) (hr : Room n X.A) : OpR X (compareOp .Eq) (rEqB D) := by
  intro pins s σ H x y v u Q I rx ry hq
  obtain ⟨b, d, q⟩ := hq
  show wpAny (model X.prog X.w) X.A (richCompare .Eq v u) (EP X pins σ Q) X.xe s
  refine wpAny_mono (h X.A pins s σ H x y v u b ⟨hr, rfl⟩ I rx ry d) (fun r s' z => ?_) fun _ _ x => x
  obtain ⟨hr', H', I', e⟩ := z
  subst hr'
  exact ⟨.bl b, H', I', rfl, q H' e⟩
/-- the answers item by item -/
def AllB (D : EqvB) (e : Nat → Bool) (xs ys : List V) (H : Hp) : Prop := ∀ (i : Nat) x y, xs[i]? = some x → ys[i]? = some y → D x y H (e i)
def DTupB (K : PySem.W.Frag) (D : EqvB) : EqvB := fun x y H b => ∃ p q xs ys e, x = .ref p ∧ y = .ref q ∧ SqT K H p xs ∧ SqT K H q ys ∧ AllB D e xs ys H ∧ b = ((List.range (min xs.length ys.length)).all e && xs.length == ys.length)
theorem arr_at {xs : List V} {its : List Value} (r : Vals xs its) {i : Nat} (h1 : i < its.toArray.size) : ∃ x, xs[i]? = some x ∧ RelV x its.toArray[i] := by
  have g1 : its[i]? = some its.toArray[i] := by
    have h1' : i < its.length := by simpa using h1
    rw [List.getElem?_eq_getElem h1'] <;> simp
  have k1 : i < xs.length := by rw [r.length]; simpa using h1
  obtain ⟨u, hu, ru⟩ := r.get (List.getElem?_eq_getElem k1)
  rw [g1] at hu
  exact ⟨_, List.getElem?_eq_getElem k1, Option.some.inj hu ▸ ru⟩
theorem rcB_tup (hD : MonB D) (h : EqB X n D) : RcB X (n + 1) (DTupB X.K D) := by
  intro A pins s σ H x y u v b sb I rx ry d
  obtain ⟨p, q, xs, ys, e, rfl, rfl, hp, hq, ha, rfl⟩ := d
  cases rx
  cases ry
  obtain ⟨its, r, t1, z⟩ := I.tuple hp
  obtain ⟨its2, r2, t2, z2⟩ := I.tuple hq
  refine rc_tupB (e := e) sb.room.units0 (fun s' => LoopI X pins σ H s') t1 t2 (fun i h1 h2 s' q => ?_) (fun s' q => ?_) ⟨H, I, Ext.rfl'⟩
  · obtain ⟨H1, I1, e1⟩ := q
    obtain ⟨a, ga, ra⟩ := arr_at r h1
    obtain ⟨c, gc, rc⟩ := arr_at r2 h2
    refine wpAny_mono (h A.in1 pins s' σ H1 a c _ _ (e i) sb.in1 I1 ra rc (hD _ _ _ _ _ e1 (ha i a c ga gc))) (fun r s2 q => ?_) fun _ _ x => x
    obtain ⟨hr, H2, I2, e2⟩ := q
    exact ⟨hr, H2, I2, e1.trans e2⟩
  · refine ⟨?_, q⟩
    rw [List.size_toArray, List.size_toArray, ← r.length, ← r2.length]
/-- x in a list, by == -/
def rInB (D : EqvB) (neg : Bool) : R2 := fun x y H Q => ∃ p ys e, y = .ref p ∧ H p = some (.lst ys) ∧ (∀ (i : Nat) z, ys[i]? = some z → D z x H (e i)) ∧ ∀ H', Ext H H' → Q (.bl (if neg then !(List.range ys.length).any e else (List.range ys.length).any e)) H'
theorem list_C (hD : MonB D) (h : EqB X n D) {A : Around} (sb : Sub X (n + 1) A) {pins : List (Addr × Obj)} {σ : L2.St} {H : Hp} {p : Addr} {x : V} {v : Value} {ys : List V} {e : Nat → Bool} (rx : RelV x v) (hp : H p = some (.lst ys)) (he : ∀ (i : Nat) z, ys[i]? = some z → D z x H (e i)) :
    ListC X.prog X.w A X.xe p v ys.length e (fun s' => LoopI X pins σ H s') := by
  intro s' q
  obtain ⟨H1, I1, e1⟩ := id q
  obtain ⟨z, its, k, r, g⟩ := I1.hok p _ (e1 _ _ hp)
  refine ⟨its.toArray, k, g, by rw [List.size_toArray, ← r.length], fun i h1 => ?_⟩
  obtain ⟨a, ga, ra⟩ := arr_at r h1
  refine wpAny_mono (h A.in1 pins s' σ H1 a x _ _ (e i) sb.in1 I1 ra rx (hD _ _ _ _ _ e1 (he i a ga))) (fun r s2 q => ?_) fun _ _ x => x
  obtain ⟨hr, H2, I2, e2⟩ := q
  exact ⟨hr, H2, I2, e1.trans e2⟩
theorem op_inB (hD : MonB D) (h : EqB X n D) (hr : Room (n + 1) X.A) : OpR X (compareOp .In) (rInB D false) := by
  intro pins s σ H x y v u Q I rx ry hq
  obtain ⟨p, ys, e, rfl, hp, he, q⟩ := hq
  cases ry
  exact in_listB (list_C hD h ⟨hr, rfl⟩ rx hp he) ⟨H, I, Ext.rfl'⟩ fun s' ⟨H1, I1, e1⟩ => ⟨.bl ((List.range ys.length).any e), H1, I1, rfl, q H1 e1⟩
theorem op_notInB (hD : MonB D) (h : EqB X n D) (hr : Room (n + 1) X.A) : OpR X (compareOp .NotIn) (rInB D true) := by
  intro pins s σ H x y v u Q I rx ry hq
  obtain ⟨p, ys, e, rfl, hp, he, q⟩ := hq
  cases ry
  exact notIn_listB (list_C hD h ⟨hr, rfl⟩ rx hp he) ⟨H, I, Ext.rfl'⟩ fun s' ⟨H1, I1, e1⟩ => ⟨.bl (!(List.range ys.length).any e), H1, I1, rfl, q H1 e1⟩
end
end Way

/-! own !=, in, len, operators of two of one class -/
namespace Way
open PySem PySem.Spec PyProof.Rows L2
section
variable {M : Model} {prog : Program} {w : World} {A : Around} {E : Value → Shared → Prop} {s : Shared} {K : PySem.W.Frag} {x C f : Addr} {ox : Obj} {od : Option Obj} {b tb : Value}
theorem objNe_K {Q : PySem.Fin → Shared → Prop} (hu : A.units < cLine) (X : K.In s.heap) (I : PySem.W.InstAt s.heap x ox C od) (hs : PySem.W.findIn K (.ref C) "__eq__" = some (some (.ref f))) (hf : PySem.W.isFn K (.ref f) = true)
    (hcall : wpAny (model prog w) A (call (.ref f) [.ref x, b]) (fun v s' => ∃ c, v = .bool c ∧ Q (.done (.ret (.bool (!c)))) s') E s) :
    wpAny (model prog w) A (Builtin.«object.__ne__» ⟨[.ref x, b], []⟩) Q E s := by
  unfold Builtin.«object.__ne__»
  repeat (first
    | with_reducible refine wpAny_cRoomFor hu ?_
    | (refine wpAny_bind (m := callSpecialIfBound? (.ref x) (Str.ofString "__eq__") [b])
        (PySem.W.ifBound_K X I hs hf (wpAny_mono hcall (fun r s' hr => by
          obtain ⟨b, rfl, hq⟩ := hr
          repeat (first | exact hq | exact wpAny_pure hq | exact wpAny_truthy_bool hq | (refine wpAny_bind (m := truthy (.bool _)) (wpAny_truthy_bool ?_)) | wp_step)) fun _ _ e => e)))
    | wp_step)
theorem call_objNe {Q : Value → Shared → Prop} (hu : A.in1.units < cLine) (X : K.In s.heap) (I : PySem.W.InstAt s.heap x ox C od) (hm : PySem.W.mroIn K C (.type "object") = some true) (hs : PySem.W.findIn K (.ref C) "__eq__" = some (some (.ref f))) (hf : PySem.W.isFn K (.ref f) = true)
    (hcall : wpAny (model prog w) A.in1 (call (.ref f) [.ref x, b]) (fun v s' => ∃ c, v = .bool c ∧ Q (.bool (!c)) s') E s) :
    wpAny (model prog w) A (call (.builtin "object.__ne__") [.ref x, b]) Q E s :=
  wpAny_call (codeAny_call_builtin F.cmp_object.ne.plain F.cmpEntry_ne (PySem.W.check_slot F.cmpKind_ne F.cmpSplit_ne (I.type.andThen (PySem.W.looks_mroIn X hm)) (F.cmpArgs_ne _ _) (objNe_K hu X I hs hf hcall)))
theorem ifBound_objNe {args : List Value} {Q : Option Value → Shared → Prop} (X : K.In s.heap) (I : PySem.W.InstAt s.heap x ox C od) (hs : PySem.W.findIn K (.ref C) "__ne__" = some (some (.builtin "object.__ne__")))
    (h : wpAny M A (call (.builtin "object.__ne__") (.ref x :: args)) (fun v => Q (some v)) E s) : wpAny M A (callSpecialIfBound? (.ref x) "__ne__" args) Q E s := by
  simp only [callSpecialIfBound?, bindSpecialIfBound?]
  refine wpAny_holding (wpAny_bind (wpAny_bind (wpAny_bind (I.type.here ((PySem.W.looks_findIn X hs).here ?_)))))
  refine wpAny_bind (wpAny_askSetting (wpAny_ite ?_))
  have fin : wpAny M A (call (.builtin "object.__ne__") ([.ref x] ++ args) >>= fun v => pure (some v)) Q E s := wpAny_bind (wpAny_mono h (fun v s' h' => wpAny_pure h') fun _ _ h' => h')
  split
  · exact wpAny_bind (wpAny_of_eq (F.cmp_object.ne.bind _) (wpAny_pure (by exact fin)))
  · exact wpAny_tryCatch (wpAny_bind (wpAny_of_eq (F.cmp_object.ne.bind _) (wpAny_pure (by exact fin))))
theorem rc_neK {Q : Value → Shared → Prop} (hu : A.units < cLine) (hu1 : A.in1.units < cLine) (X : K.In s.heap) (I : PySem.W.InstAt s.heap x ox C od) (hm : PySem.W.mroIn K C (.type "object") = some true) (hb : PySem.W.Looks (model prog w) s.heap (typeOf b) tb) (hn : PySem.W.notFirst K C tb = true)
    (hs : PySem.W.findIn K (.ref C) "__eq__" = some (some (.ref f))) (hne : PySem.W.findIn K (.ref C) "__ne__" = some (some (.builtin "object.__ne__"))) (hf : PySem.W.isFn K (.ref f) = true)
    (h : wpAny (model prog w) A.in1 (call (.ref f) [.ref x, b]) (fun v s' => ∃ c, v = .bool c ∧ Q (.bool (!c)) s') E s) : wpAny (model prog w) A (richCompare .NotEq (.ref x) b) Q E s := by
  have one : wpAny (model prog w) A (tryCompare (.ref x) "__ne__" b) (fun r s' => ∃ v, r = some v ∧ Q v s') E s := by
    unfold tryCompare
    refine wpAny_bind (ifBound_objNe X I hne (call_objNe hu1 X I hm hs hf (wpAny_mono h (fun v s' hv => ?_) fun _ _ e => e)))
    obtain ⟨c, rfl, hq⟩ := hv
    exact ⟨c, rfl, wpAny_pure ⟨_, rfl, hq⟩⟩
  unfold richCompare
  simp only [oneThing_ref, cmpInfo_NotEq]
  refine wpAny_holding (wpAny_bind (wpAny_cRoomFor hu ?_))
  refine wpAny_bind (I.type.here (wpAny_bind (hb.here ?_)))
  split
  · rename_i q
    have e : PySem.W.subIn K tb (.ref C) = some false := by
      rcases Bool.or_eq_true_iff.mp hn with e | e
      · rw [beq_iff_eq.mp e] at q; simp at q
      · exact beq_iff_eq.mp e
    refine wpAny_bind ((PySem.W.looks_subIn X e).here ?_)
    simp only [Bool.false_eq_true, if_false]
    refine wpAny_bind (wpAny_mono one (fun r s' z => ?_) fun _ _ e => e)
    obtain ⟨v, rfl, hq⟩ := z
    exact wpAny_pure hq
  · refine wpAny_bind (wpAny_pure ?_)
    simp only [Bool.false_eq_true, if_false]
    refine wpAny_bind (wpAny_mono one (fun r s' z => ?_) fun _ _ e => e)
    obtain ⟨v, rfl, hq⟩ := z
    exact wpAny_pure hq
end
section
variable {X : Cx} {n : Nat} {CX : CXT} {C f : Addr} {fd : FuncData} {ps : List Str} {sp : Sp} {E : XK}
/-- x != y, by the own == of x's class -/
def rNeB (D : EqvB) : R2 := fun x y H Q => ∃ b, D x y H b ∧ ∀ H', Ext H H' → Q (.bl (!b)) H'
theorem op_neB {R : Addr → V → Hp → Bool → Prop} (F : FnOk X.prog X.w X.K X.mg X.base CX n f fd ps (spEqB R)) (hm : PySem.W.mroIn X.K C (.type "object") = some true)
    (hs : PySem.W.findIn X.K (.ref C) "__eq__" = some (some (.ref f))) (hne : PySem.W.findIn X.K (.ref C) "__ne__" = some (some (.builtin "object.__ne__"))) (hf : PySem.W.isFn X.K (.ref f) = true) (hb : Binds X.K fd ps []) (hx : Passes CX X E) (hr : Room (n + 1) X.A) :
    OpR X (compareOp .NotEq) (rNeB (DOwn X.K C R)) := by
  intro pins s σ H x y v u Q I rx ry hq
  obtain ⟨b, ⟨a, dx, fs, t, rfl, ha, ty, hn, hR⟩, q⟩ := hq
  cases rx
  obtain ⟨mA, J, _⟩ := ins_get I.hok ha
  obtain ⟨od, J, _⟩ := J.look
  obtain ⟨P, Z, p, hx'⟩ := kit_of I ry ty
  show wpAny (model X.prog X.w) X.A (richCompare .NotEq (.ref a) u) (EP X pins σ Q) X.xe s
  have sb : Sub X (n + 1) X.A := ⟨hr, rfl⟩
  refine rc_neK hr.units0 hr.in1.units0 I.kIn J hm (Z.ty _ _ I.kIn p) hn hs hne hf ?_
  refine wpAny_mono (own_call (vs := [.ref a, y]) (Q := fun v H' => v = .bl b ∧ Ext H H') F hb hx sb.in1 I (.cons rfl (.cons ry .nil)) ⟨a, y, b, rfl, hR, fun H' e => ⟨rfl, e⟩⟩) (fun r s' hq => ?_) fun _ _ x => x
  obtain ⟨z, H', I', rz, ez, ex⟩ := hq
  subst ez
  cases rz
  exact ⟨b, rfl, .bl (!b), H', I', rfl, q H' ex⟩
/-- x in o, o of a class with its own __contains__ -/
def rInO (C : Addr) (sp : Sp) (E : XK) (neg : Bool) : R2 := fun x y H Q => ∃ a dx fs, y = .ref a ∧ H a = some (.ins C dx fs) ∧ sp [.ref a, x] H (fun v H' => ∃ b, v = .bl b ∧ Q (.bl (if neg then !b else b)) H') E
theorem op_inO (F : FnOk X.prog X.w X.K X.mg X.base CX n f fd ps sp) (hs : PySem.W.findIn X.K (.ref C) "__contains__" = some (some (.ref f))) (hf : PySem.W.isFn X.K (.ref f) = true) (hb : Binds X.K fd ps []) (hx : Passes CX X E) (hr : Room n X.A) :
    OpR X (compareOp .In) (rInO C sp E false) := by
  intro pins s σ H x y v u Q I rx ry hq
  obtain ⟨a, dx, fs, rfl, ha, q⟩ := hq
  cases ry
  obtain ⟨mA, J, _⟩ := ins_get I.hok ha
  obtain ⟨od, J, _⟩ := J.look
  obtain ⟨m, hF⟩ := I.fr
  refine PySem.W.in_K hF I.ok.mod.kin J hs hf (wpAny_mono (own_call (vs := [.ref a, x]) F hb hx ⟨hr, rfl⟩ I (.cons rfl (.cons rx .nil)) q) (fun r s' hq => ?_) fun _ _ x => x)
  obtain ⟨z, H', I', rz, b, ez, q⟩ := hq
  subst ez
  cases rz
  exact wpAny_truthy_bool ⟨.bl b, H', I', rfl, q⟩
theorem op_notInO (F : FnOk X.prog X.w X.K X.mg X.base CX n f fd ps sp) (hs : PySem.W.findIn X.K (.ref C) "__contains__" = some (some (.ref f))) (hf : PySem.W.isFn X.K (.ref f) = true) (hb : Binds X.K fd ps []) (hx : Passes CX X E) (hr : Room n X.A) :
    OpR X (compareOp .NotIn) (rInO C sp E true) := by
  intro pins s σ H x y v u Q I rx ry hq
  obtain ⟨a, dx, fs, rfl, ha, q⟩ := hq
  cases ry
  obtain ⟨mA, J, _⟩ := ins_get I.hok ha
  obtain ⟨od, J, _⟩ := J.look
  obtain ⟨m, hF⟩ := I.fr
  refine PySem.W.notIn_K hF I.ok.mod.kin J hs hf (wpAny_mono (own_call (vs := [.ref a, x]) F hb hx ⟨hr, rfl⟩ I (.cons rfl (.cons rx .nil)) q) (fun r s' hq => ?_) fun _ _ x => x)
  obtain ⟨z, H', I', rz, b, ez, q⟩ := hq
  subst ez
  cases rz
  exact wpAny_truthy_bool ⟨.bl (!b), H', I', rfl, q⟩
/-- len(o) by an own __len__ -/
def rLenO (C : Addr) (sp : Sp) (E : XK) : List V → Hp → VK → Prop := fun xs H Q => ∃ a dx fs, xs = [.ref a] ∧ H a = some (.ins C dx fs) ∧ sp [.ref a] H (fun v H' => ∃ i, v = .int i ∧ (0 ≤ i ∧ i < 2 ^ 63) ∧ Q (.int i) H') E
theorem call_lenO (F : FnOk X.prog X.w X.K X.mg X.base CX n f fd ps sp) (hs : PySem.W.findIn X.K (.ref C) "__len__" = some (some (.ref f))) (hf : PySem.W.isFn X.K (.ref f) = true) (hb : Binds X.K fd ps []) (hx : Passes CX X E) (hr : Room (n + 1) X.A) :
    CallR X (.builtin "len") (rLenO C sp E) := by
  intro pins s σ H xs us Q I r hq
  obtain ⟨a, dx, fs, rfl, ha, q⟩ := hq
  obtain ⟨u, rfl, rx⟩ := vals1 r
  cases rx
  obtain ⟨mA, J, _⟩ := ins_get I.hok ha
  obtain ⟨od, J, _⟩ := J.look
  obtain ⟨m, hF⟩ := I.fr
  have sb : Sub X (n + 1) X.A := ⟨hr, rfl⟩
  refine PySem.W.len_K hF I.ok.mod.kin J hs hf (wpAny_mono (own_call (vs := [.ref a]) F hb hx sb.in1 I (.cons rfl .nil) q) (fun r s' hq => ?_) fun _ _ x => x)
  obtain ⟨z, H', I', rz, i, ez, hi, q⟩ := hq
  subst ez
  obtain ⟨t, rfl⟩ := rz
  exact ⟨hi, .int i, H', I'.tok _, ⟨_, rfl⟩, q⟩
/-- a | b, a & b of two instances of one class -/
def rBinO (C : Addr) (sp : Sp) (E : XK) : R2 := fun x y H Q => ∃ a c dx dy fs gs, x = .ref a ∧ y = .ref c ∧ H a = some (.ins C dx fs) ∧ H c = some (.ins C dy gs) ∧ sp [.ref a, .ref c] H Q E
theorem op_binO {op : Operator} (F : FnOk X.prog X.w X.K X.mg X.base CX n f fd ps sp) (hc : PySem.W.selfFirst X.K C = true) (hs : PySem.W.findIn X.K (.ref C) (PySem.dunder op.info.2) = some (some (.ref f))) (hf : PySem.W.isFn X.K (.ref f) = true) (hb : Binds X.K fd ps []) (hx : Passes CX X E) (hr : Room n X.A) :
    OpR X (binaryOp op) (rBinO C sp E) := by
  intro pins s σ H x y v u Q I rx ry hq
  obtain ⟨a, c, dx, dy, fs, gs, rfl, rfl, ha, hc', q⟩ := hq
  cases rx
  cases ry
  obtain ⟨mA, J, _⟩ := ins_get I.hok ha
  obtain ⟨od, J, _⟩ := J.look
  obtain ⟨mB, J2, _⟩ := ins_get I.hok hc'
  obtain ⟨od2, J2, _⟩ := J2.look
  obtain ⟨m, hF⟩ := I.fr
  refine PySem.W.binop_K hF I.ok.mod.kin J J2.type hc hs hf (wpAny_mono (own_call (vs := [.ref a, .ref c]) F hb hx ⟨hr, rfl⟩ I (.cons rfl (.cons rfl .nil)) q) (fun r s' hq => ?_) fun _ _ x => x)
  obtain ⟨z, H', I', rz, q⟩ := hq
  have ok : EP X pins σ Q r s' := ⟨z, H', I', rz, q⟩
  cases r with
  | notImplemented => cases z <;> first | (obtain ⟨t, ht⟩ := rz; cases ht) | cases rz
  | _ => exact ok
end
end Way

/-! defs that show data (repr): what is known is that no showing is under way around the call -/
namespace Way
open PySem PySem.Spec PyProof.Rows L2
structure FnG (P : Program) (w : World) (K : PySem.W.Frag) (mg : Str → Option Value) (base : Heap) (CX : CXT) (k : Nat) (f : Addr) (fd : FuncData) (ps : List Str) (sp : Sp) : Prop where
  len : ∀ vs H Q E, sp vs H Q E → vs.length = ps.length
  run : ∀ (A : Around) (outer : List Env) (s : Shared) (H : Hp) (args : Args) (us : List Value) (vs : List V) (Q : VK) (E : XK), A.guards = some [] → Room k A → Env0 P w K mg base A outer s H → BindsTo s fd args (ps.zip us) → Vals vs us → sp vs H Q E →
    codeAny (model P w) A (.call (.ref f) args) (CR CX outer P w H s Q E) s
theorem fnG_of {CX : CXT} {P : Program} {w : World} {K : PySem.W.Frag} {mg : Str → Option Value} {base : Heap} {k : Nat} {f : Addr} {name qual : Str} {params : Arguments} {body : List Stmt} {scope : Scope} {dV kV doc pm cdv ct oc : Value} {an od : Option Addr}
    {osl : Array (Option Value)} {N ps : List Str} {sp : Sp} (lk : K.lookup f = some ⟨oc, od, .func (PySem.W.fnOf name qual params body scope dV kV doc pm an cdv ct), osl⟩) (hcd : PySem.W.codeIn K cdv qual = true) (S : FnScope N ps scope)
    (len : ∀ vs H Q E, sp vs H Q E → vs.length = ps.length)
    (hbody : ∀ (A : Around) (outer : List Env) (s : Shared) (H : Hp) (vs : List V) (Q : VK) (E : XK), A.guards = some [] → Room k (A.deeper (envOfC qual scope s.heap.objs.size f cdv)) → sp vs H Q E →
      ∃ t, PSs (cxOf CX P w K mg base N qual scope f cdv A outer s H E) body t ∧ t { nx := fun _ H' => Q .non H', rt := Q } (start N vs) H) :
    FnG P w K mg base CX (k + 1) f (PySem.W.fnOf name qual params body scope dV kV doc pm an cdv ct) ps sp := by
  refine ⟨len, fun A outer s H args us vs Q E hgd hr e0 hb r hsp => ?_⟩
  have hl := len _ _ _ _ hsp
  have KX : K.In s.heap := e0.mod.kin.keeps fun b o e => (e0.bs b o e).1
  have lim : s.heap.NoLimit := e0.mod.nolimit.keeps fun b o e => (e0.bs b o e).1
  have hkind : ∀ y ∈ ps.zip us, scope.names.lookup y.1 = some .local ∨ (scope.names.lookup y.1 = some .cell ∧ ((cellsFrom (s.heap.objs.size + 1) scope.names []).lookup y.1).isSome = true) := fun ⟨n, v⟩ hy => by
    rcases S.par n (List.of_mem_zip hy).1 with q | q
    · exact .inl q
    · exact .inr ⟨q, PySem.W.cellsFrom_some _ _ _ (.inl q)⟩
  refine codeAny_call_function hr.depth (KX _ _ lk) rfl S.co S.gen rfl (PySem.W.codeRec_of KX hcd) (hb _ _ _ _ ?_)
  refine wpAny_newFunctionEnv_cells S.kind hkind fun env he s1 x => ?_
  subst he
  refine ⟨lim.keeps x.toInCall.keep, codeAny_func ?_⟩
  obtain ⟨t, ht, hq⟩ := hbody A outer s H vs Q E hgd (hr.deeper _) hsp
  have I : Inv (cxOf CX P w K mg base N qual scope f cdv A outer s H E) [] (start N vs) H s1 := inv_start S hr.hd e0 hl r x
  refine wpAny_mono (ht.run [] s1 (start N vs) H _ I hq) (fun fl s' hs => ?_) fun e s' hs => hs
  have fin : ∀ {σ' : L2.St} {H' : Hp} {v : V} {u : Value}, Inv (cxOf CX P w K mg base N qual scope f cdv A outer s H E) [] σ' H' s' → RelV v u → Q v H' → CE outer P w H s Q u s' :=
    fun {σ' H' v u} J rv q => ⟨v, H', J.os, J.bare, J.base, J.hok, rv, q⟩
  cases fl with
  | ret u =>
    obtain ⟨v, σ', H', J, rv, q⟩ := hs
    exact fin J rv q
  | next =>
    obtain ⟨σ', H', J, q⟩ := hs
    exact fin (v := V.non) (u := Value.none) J rfl q
  | brk =>
    obtain ⟨_, _, _, q⟩ := hs
    exact False.elim q
  | cont =>
    obtain ⟨_, _, _, q⟩ := hs
    exact False.elim q
section
variable {P : Program} {w : World} {K : PySem.W.Frag} {mg : Str → Option Value} {base : Heap}
theorem okG {x qual : Str} {st : Stmt} {f : Addr} {fd : FuncData} {N ps : List Str} {k : Nat} {sp : Sp} (F : Fun K x qual st f fd) (S : FnScope N ps (defScope st)) (len : ∀ vs H Q E, sp vs H Q E → vs.length = ps.length)
    (hbody : ∀ (cdv : Value) (A : Around) (outer : List Env) (s : Shared) (H : Hp) (vs : List V) (Q : VK) (E : XK), A.guards = some [] → Room k (A.deeper (envOfC qual (defScope st) s.heap.objs.size f cdv)) → sp vs H Q E →
      ∃ t, PSs (cxOf CX0 P w K mg base N qual (defScope st) f cdv A outer s H E).nox (defBody st) t ∧ t { nx := fun _ H' => Q .non H', rt := Q } (start N vs) H) : FnG P w K mg base CX0 (k + 1) f fd ps sp := by
  obtain ⟨oc, od, kV, doc, pm, an, cdv, ct, osl, rfl, lk, hcd⟩ := F.ex
  refine fnG_of lk hcd S len fun A outer s H vs Q E hgd hr hsp => ?_
  obtain ⟨t, h, q⟩ := hbody cdv A outer s H vs Q E hgd hr hsp
  exact ⟨t, h.nox, q⟩
end
section
variable {X : Cx} {CX : CXT} {k : Nat} {f : Addr} {fd : FuncData} {ps : List Str} {ds : List Value} {dvs : List V} {sp : Sp} {x : Str} {e : Expr} {es : List Expr} {t : TA} {E : XK} {p pos : Pos}
theorem run_fnG {pins : List (Addr × Obj)} {σ : L2.St} {H : Hp} {s : Shared} {Q : VK} {us : List Value} {vs : List V} (F : FnG X.prog X.w X.K X.mg X.base CX k f fd ps sp) (hgd : X.A.guards = some []) (hr : Room k X.A) (hb : Binds X.K fd ps ds) (hd : Vals dvs ds) (hx : Passes CX X E)
    (I : Inv X pins σ H s) (r : Vals vs us) (h : sp (vs ++ dvs) H Q E) : wpAny (model X.prog X.w) X.A (call (.ref f) us) (EP X pins σ Q) X.xe s := by
  have r2 : Vals (vs ++ dvs) (us ++ ds) := r.append hd
  have hl : (us ++ ds).length = ps.length := by rw [← r2.length]; exact F.len _ _ _ _ h
  refine wpAny_call (codeAny_mono (F.run X.A X.stack s H ⟨us, []⟩ (us ++ ds) (vs ++ dvs) Q E hgd hr I.env0 (hb s us I.kIn hl) r2 h) fun r s' hq => ?_)
  cases r with
  | error e => exact hx pins σ H s e s' I hq
  | ok fl =>
    cases fl with
    | ret u => exact I.after hq
    | next => exact False.elim hq
    | brk => exact False.elim hq
    | cont => exact False.elim hq
theorem pe_callG (F : FnG X.prog X.w X.K X.mg X.base CX k f fd ps sp) (hgd : X.A.guards = some []) (hr : Room k X.A) (hg : Gl X x) (hm : X.mg x = some (.ref f)) (hk : PySem.W.keepIn X.K (.ref f) = true) (hb : Binds X.K fd ps ds) (hd : Vals dvs ds) (hx : Passes CX X E)
    (ha : PA X (e :: es) t) (hdb : (x == ("__debug__" : Str)) = false := by decide) (he : starEach (e :: es) X.env = (false, eval e X.env) :: starEach es X.env := by rfl) (hpl : (backTo pos (starEach es X.env)).any (·.1) = false := by rfl) :
    PE X (.Call (.Name x p) (e :: es) [] pos) (tCall sp dvs E t) := by
  refine ⟨fun pins s σ H Q I h => ?_⟩
  refine wpAny_Call_Name_kw (ld_glob I hg hm ?_ hdb)
  refine PySem.W.callWith_K (h₀ := X.base) I.ok.mod.kin hk (thn (ha.run pos pins s σ H _ I h) fun us s1 ⟨vs, H1, I1, r, q⟩ => ⟨I1.kIn, ?_⟩) he hpl
  exact run_fnG F hgd hr hb hd hx I1 r q
/-- repr of data that stand at an address -/
def rRepr (K : PySem.W.Frag) : List V → Hp → VK → Prop := fun xs H Q => ∃ a d, xs = [.ref a] ∧ Dp K H (.ref a) d ∧ d.showable = true ∧ d.depth ≤ 60 ∧ d.hasDict = false ∧ d.shown.length ≤ sizeLine ∧ Q (.str d.shown) H
theorem call_reprD (hgd : X.A.guards = some []) (hr : Room k X.A) : CallR X (.builtin "repr") (rRepr X.K) := by
  intro pins s σ H xs us Q I r h
  obtain ⟨a, d, rfl, hd, hs, hdp, hnd, hsz, q⟩ := h
  obtain ⟨u, rfl, rx⟩ := vals1 r
  obtain ⟨as, rd⟩ := Dp.reads I d _ u hd rx
  cases rx
  have hun := hr.units
  refine repr_of_reads' rd hs (PyData.noDict_hsm hnd) hgd (by omega) (fun _ _ q => q) (fun h' u tk kp => ?_) hsz
  exact ⟨.str d.shown, H, I.kept (t' := tk) kp, ⟨_, rfl⟩, q⟩
end
/-! the end of a law that shows data -/
theorem law_callG {P : Program} {w : World} {K : PySem.W.Frag} {mg mb : Str → Option Value} {CX : CXT} {k : Nat} {fa a : Addr} {fd : FuncData} {x : Str} {sp : Sp} {s₁ : Shared} {vs : List Value} {ns : List Int}
    (KX : K.In s₁.heap) (hns : s₁.heap.Ns mainGlobals mg) (hb : s₁.heap.Ns builtinsNs mb) (hbb : ∀ x : Str, x ≠ "__name__" → mb x = bootBuiltins x) (hlim : s₁.heap.NoLimit) (hg : s₁.gens = #[])
    (ha : s₁.heap.get? a = some { cls := .type "list", data := .seq vs.toArray }) (hi : IntsAre vs ns) (hl : ns.length ≤ sizeLine) (hr : Room k callerA)
    (F : ∀ base : Heap, K.In base → base.Ns mainGlobals mg → FnG P w K mg base CX k fa fd [x] sp) (hbind : ∀ (s : Shared) (u : Value), BindsTo s fd ⟨[u], []⟩ [(x, u)])
    (hsp : ∀ H : Hp, Only H → SqL K H a (ns.map V.int) → sp [.ref a] H (fun v _ => v = .bl true) fun _ _ _ => False)
    (hCX : ∀ H e s', CX [] H s₁ (fun _ _ _ => False) e s' → False) :
    codeAny (model P w) callerA (.call (.ref fa) ⟨[.ref a], []⟩) (fun r s' => r = .ok (.ret (.bool true)) ∧ OldK s₁.heap s'.heap ∧ s'.os = s₁.os ∧ AllBare s'.gens) s₁ := by
  have rv := vals_ints hi
  have lenV := hi.length
  have core : ∀ H : Hp, Only H → SqL K H a (ns.map V.int) → HOk P w H s₁.heap → (∀ b, H b ≠ none → b = a) → (H a ≠ none → K.lookup a = none) →
      codeAny (model P w) callerA (.call (.ref fa) ⟨[.ref a], []⟩) (fun r s' => r = .ok (.ret (.bool true)) ∧ OldK s₁.heap s'.heap ∧ s'.os = s₁.os ∧ AllBare s'.gens) s₁ := by
    intro H hO hS hok hA hK
    have base_of : ∀ {b : Addr} {o : Obj}, s₁.heap.get? b = some o → H b = none → (hidT s₁.heap H).get? b = some o := fun e n => hidT_get e n
    have noA : ∀ {b : Addr} {o : Obj} {es : Array DictEntry} {ep : Nat}, s₁.heap.get? b = some o → o.data = .dict es ep → H b = none := fun {b o es ep} e d => by
      cases q : H b with
      | none => rfl
      | some u =>
        have e' : b = a := hA b (by rw [q]; simp)
        subst e'
        rw [ha] at e; cases e
        have d' : Data.seq vs.toArray _ = Data.dict es ep := d
        cases d'
    have nsK : ∀ {b : Addr} {m : Str → Option Value}, s₁.heap.Ns b m → (hidT s₁.heap H).Ns b m := fun {b m} ⟨o, es, ep, e, d, r⟩ => ⟨o, es, ep, base_of e (noA e d), d, r⟩
    have hKb : K.In (hidT s₁.heap H) := fun b o e => base_of (KX b o e) (by
      cases q : H b with
      | none => rfl
      | some u =>
        have e' : b = a := hA b (by rw [q]; simp)
        subst e'
        rw [hK (by rw [q]; simp)] at e; cases e)
    have hM : Mod K mg (hidT s₁.heap H) := ⟨hKb, nsK hns, ⟨mb, nsK hb, hbb⟩, let ⟨mc, h1, h2⟩ := hlim; ⟨mc, nsK h1, h2⟩⟩
    have e0 : Env0 P w K mg (hidT s₁.heap H) callerA [] s₁ H := ⟨rfl, hM, fun b o e => of_hidT e, Nat.le_of_eq (hidT_size _ _), trivial, fun b hb => absurd (show b ∈ ([] : List Addr) from hb) (by simp), hok, .of_eq hg⟩
    refine codeAny_mono ((F _ hKb (nsK hns)).run callerA [] s₁ H ⟨[.ref a], []⟩ [.ref a] [.ref a] _ _ rfl hr e0 (hbind s₁ (.ref a)) (.cons rfl .nil) (hsp H hO hS)) fun r s' h => ?_
    cases r with
    | error e => exact (hCX H e s' h).elim
    | ok fl =>
      cases fl with
      | next => exact False.elim h
      | brk => exact False.elim h
      | cont => exact False.elim h
      | ret u =>
        obtain ⟨v, H', os, bare, un, hok', r', q⟩ := h
        have q' : v = .bl true := q
        subst q'
        obtain rfl : u = Value.bool true := r'
        refine ⟨rfl, OldK.of_keep fun b o e => ?_, os, bare⟩
        cases q : H b with
        | none => exact un.keep b o e q (by intro z; exact absurd (show b ∈ ([] : List Addr) from z) (by simp)) (by simp)
        | some u =>
          rcases hO b with z | ⟨ob, xs, z⟩
          · rw [q] at z; cases z
          · have z2 := un.frzs b ob _ z
            obtain ⟨e1, _⟩ := hok b _ z
            obtain ⟨e2, _⟩ := hok' b _ z2
            rw [e] at e1; cases e1
            exact e2
  cases hk : K.lookup a with
  | some o =>
    have e := KX a o hk
    rw [ha] at e
    cases e
    refine core (fun _ => none) (fun _ => .inl rfl) (.inr ⟨_, vs.toArray, _, hk, rfl, rfl, rfl, by rw [List.size_toArray, lenV]; exact hl, by simpa using rv⟩) (fun b u z => by have z' : (none : Option HO) = some u := z; cases z') (fun b z => absurd rfl z) fun z => absurd rfl z
  | none =>
    refine core (fun b => if b = a then some (.frz { cls := .type "list", data := .seq vs.toArray } (.lst (ns.map V.int))) else none) (fun b => ?_) (.inl (.inr ⟨{ cls := .type "list", data := .seq vs.toArray }, if_pos rfl⟩)) (fun b u z => ?_) (fun b z => ?_) fun _ => hk
    · by_cases hb : b = a
      · exact .inr ⟨_, _, if_pos hb⟩
      · exact .inl (if_neg hb)
    · by_cases hb : b = a
      · have z' := (if_pos hb).symm.trans z
        cases z'
        subst hb
        exact ⟨ha, by rw [List.length_map]; exact hl, vs, _, rv, ha⟩
      · have z' := (if_neg hb).symm.trans z
        cases z'
    · by_cases hb : b = a
      · exact hb
      · exact absurd (if_neg hb) z
theorem walk_ofG {l : PySem.W.OpenLaw} {n k : Nat} {q : Program} {loose : List Str} {XP : (Str → Option Value) → Heap → Prop} {YP : World → Heap → Prop} {d : DefRec} {K : Params → PySem.W.Frag} {CX : World → CXT} {sp : World → Sp} {x : Str}
    (hn : l.most = some n) (hn2 : n ≤ sizeLine) (hdf : d.params.defaults = []) (hr : Room k callerA)
    (hY : ∀ (w : World) (h : Heap), YP w h → (K w.params).In h)
    (F : ∀ (w : World) (mg : Str → Option Value) (fa : Addr) (h : Heap), (K w.params).In h → h.Ns mainGlobals mg → mg d.name = some (.ref fa) →
      ∃ fd : FuncData, (∀ (s : Shared) (u : Value), BindsTo s fd ⟨[u], []⟩ [(x, u)]) ∧
        ∀ base : Heap, (K w.params).In base → base.Ns mainGlobals mg → FnG l.prog w (K w.params) mg base (CX w) k fa fd [x] (sp w))
    (hsp : ∀ (w : World) (H : Hp) (a : Addr) (ns : List Int), ns.length ≤ n → Only H → SqL (K w.params) H a (ns.map V.int) → sp w [.ref a] H (fun v _ => v = .bl true) fun _ _ _ => False)
    (hCX : ∀ (w : World) (H : Hp) (s : Shared) (e : Value) (s' : Shared), CX w [] H s (fun _ _ _ => False) e s' → False) :
    PySem.W.WalkO q loose XP YP l.row.toRowW d [] (fun f vs => PySem.call f vs) := by
  refine Att.attach_call hn hdf fun w s₀ s₁ mg mb fa o pm cd doc a vs ns G Y ho hd hcd hmg hobj hints hlen hg => ?_
  have KX := hY w _ Y
  obtain ⟨fd, hb, hF⟩ := F w mg fa _ KX G.T.g hmg
  exact law_callG KX G.T.g G.T.b G.T.builtins G.T.nolimit hg hobj hints (Nat.le_trans hlen hn2) hr hF hb (fun H hO hS => hsp w H a ns hlen hO hS) fun H e s' => hCX w H s₁ e s'
end Way

/-! == and != of instances whose class has neither: by identity -/
namespace Way
open PySem PySem.Spec PyProof.Rows L2
section
variable {M : Model} {prog : Program} {w : World} {A : Around} {E : Value → Shared → Prop} {s : Shared} {K : PySem.W.Frag} {x y C : Addr} {ox oy : Obj} {od oe : Option Obj}
theorem inst_noTuple (I : PySem.W.InstAt s.heap x ox C od) : ox.cls ≠ .type "tuple" := by
  rw [I.cls]; intro e; cases e
theorem callEq_same {Q : Value → Shared → Prop} (X : K.In s.heap) (I : PySem.W.InstAt s.heap x ox C od) (hm : PySem.W.mroIn K C (.type "object") = some true) (hq : Q (.bool true) s) :
    wpAny (model prog w) A (call (.builtin "object.__eq__") [.ref x, .ref x]) Q E s :=
  wpAny_call (codeAny_call_builtin F.cmp_object.eq.plain F.cmpEntry_eq (PySem.W.check_slot F.cmpKind_eq F.cmpSplit_eq (I.type.andThen (PySem.W.looks_mroIn X hm)) (F.cmpArgs_eq _ _) (objEq_entry_same hq)))
theorem callEq_other {Q : Value → Shared → Prop} (X : K.In s.heap) (I : PySem.W.InstAt s.heap x ox C od) (J : PySem.W.InstAt s.heap y oy C oe) (hxy : x ≠ y) (hm : PySem.W.mroIn K C (.type "object") = some true) (hq : Q .notImplemented s) :
    wpAny (model prog w) A (call (.builtin "object.__eq__") [.ref x, .ref y]) Q E s :=
  wpAny_call (codeAny_call_builtin F.cmp_object.eq.plain F.cmpEntry_eq (PySem.W.check_slot F.cmpKind_eq F.cmpSplit_eq (I.type.andThen (PySem.W.looks_mroIn X hm)) (F.cmpArgs_eq _ _) (objEq_entry_other hxy I.at_ J.at_ (inst_noTuple I) hq)))
theorem neEntry_other {Q : PySem.Fin → Shared → Prop} (hu : A.units < cLine) (X : K.In s.heap) (I : PySem.W.InstAt s.heap x ox C od) (J : PySem.W.InstAt s.heap y oy C oe) (hxy : x ≠ y) (hm : PySem.W.mroIn K C (.type "object") = some true) (hs : PySem.W.findIn K (.ref C) "__eq__" = some (some (.builtin "object.__eq__")))
    (hq : Q (.done (.ret .notImplemented)) s) : wpAny (model prog w) A (Builtin.«object.__ne__» ⟨[.ref x, .ref y], []⟩) Q E s := by
  unfold Builtin.«object.__ne__»
  repeat (first
    | with_reducible refine wpAny_cRoomFor hu ?_
    | (refine wpAny_bind (m := callSpecialIfBound? (.ref x) (Str.ofString "__eq__") [.ref y]) (HN.ifBound_objEq X I hs (callEq_other X I J hxy hm ?_)))
    | wp_step)
  exact hq
theorem callNe_other {Q : Value → Shared → Prop} (hu : A.in1.units < cLine) (X : K.In s.heap) (I : PySem.W.InstAt s.heap x ox C od) (J : PySem.W.InstAt s.heap y oy C oe) (hxy : x ≠ y) (hm : PySem.W.mroIn K C (.type "object") = some true) (hs : PySem.W.findIn K (.ref C) "__eq__" = some (some (.builtin "object.__eq__"))) (hq : Q .notImplemented s) :
    wpAny (model prog w) A (call (.builtin "object.__ne__") [.ref x, .ref y]) Q E s :=
  wpAny_call (codeAny_call_builtin F.cmp_object.ne.plain F.cmpEntry_ne (PySem.W.check_slot F.cmpKind_ne F.cmpSplit_ne (I.type.andThen (PySem.W.looks_mroIn X hm)) (F.cmpArgs_ne _ _) (neEntry_other hu X I J hxy hm hs hq)))
theorem rc_eqSame {Q : Value → Shared → Prop} (hu : A.units < cLine) (X : K.In s.heap) (I : PySem.W.InstAt s.heap x ox C od) (hm : PySem.W.mroIn K C (.type "object") = some true) (hs : PySem.W.findIn K (.ref C) "__eq__" = some (some (.builtin "object.__eq__")))
    (h : Q (.bool true) s) : wpAny (model prog w) A (richCompare .Eq (.ref x) (.ref x)) Q E s := by
  have one : wpAny (model prog w) A (tryCompare (.ref x) "__eq__" (.ref x)) (fun r s' => r = some (.bool true) ∧ s' = s) E s := by
    unfold tryCompare
    exact wpAny_bind (HN.ifBound_objEq X I hs (callEq_same X I hm (wpAny_pure ⟨rfl, rfl⟩)))
  simp only [richCompare, cmpInfo_Eq, oneThing_ref]
  refine wpAny_holding (wpAny_bind (wpAny_cRoomFor hu ?_))
  refine wpAny_bind (I.type.here (wpAny_bind (I.type.here ?_)))
  rw [if_neg (by simp)]
  refine wpAny_bind (wpAny_pure ?_)
  simp only [Bool.false_eq_true, if_false]
  refine wpAny_bind (wpAny_mono one (fun r s' z => ?_) fun _ _ e => e)
  obtain ⟨rfl, rfl⟩ := z
  exact wpAny_pure h
theorem rc_neOther {Q : Value → Shared → Prop} (hu : A.units < cLine) (hu1 : A.in1.units < cLine) (X : K.In s.heap) (I : PySem.W.InstAt s.heap x ox C od) (J : PySem.W.InstAt s.heap y oy C oe) (hxy : x ≠ y) (hm : PySem.W.mroIn K C (.type "object") = some true) (hs : PySem.W.findIn K (.ref C) "__eq__" = some (some (.builtin "object.__eq__")))
    (hne : PySem.W.findIn K (.ref C) "__ne__" = some (some (.builtin "object.__ne__"))) (h : Q (.bool true) s) : wpAny (model prog w) A (richCompare .NotEq (.ref x) (.ref y)) Q E s := by
  have one : wpAny (model prog w) A (tryCompare (.ref x) "__ne__" (.ref y)) (fun r s' => r = none ∧ s' = s) E s := by
    unfold tryCompare
    exact wpAny_bind (ifBound_objNe X I hne (callNe_other hu1 X I J hxy hm hs (wpAny_pure ⟨rfl, rfl⟩)))
  have two : wpAny (model prog w) A (tryCompare (.ref y) "__ne__" (.ref x)) (fun r s' => r = none ∧ s' = s) E s := by
    unfold tryCompare
    exact wpAny_bind (ifBound_objNe X J hne (callNe_other hu1 X J I hxy.symm hm hs (wpAny_pure ⟨rfl, rfl⟩)))
  simp only [richCompare, cmpInfo_NotEq, oneThing_ref]
  refine wpAny_holding (wpAny_bind (wpAny_cRoomFor hu ?_))
  refine wpAny_bind (I.type.here (wpAny_bind (J.type.here ?_)))
  rw [if_neg (by simp)]
  refine wpAny_bind (wpAny_pure ?_)
  simp only [Bool.false_eq_true, if_false, Bool.not_false, if_true]
  refine wpAny_bind (m := tryCompare (.ref x) _ (.ref y)) (wpAny_mono one (fun r s1 z => ?_) fun _ _ e => e)
  obtain ⟨z1, z2⟩ := z
  subst z1
  subst z2
  refine wpAny_bind (m := tryCompare (.ref y) _ (.ref x)) (wpAny_mono two (fun r s2 z => ?_) fun _ _ e => e)
  obtain ⟨z1, z2⟩ := z
  subst z1
  subst z2
  exact wpAny_bind (wpAny_rule (wpAny_bind (wpAny_isSame_ref_other hxy I.at_ J.at_ (inst_noTuple I) (wpAny_pure h))))
end
section
variable {X : Cx} {k : Nat} {C : Addr}
structure ByIdent (K : PySem.W.Frag) (C : Addr) : Prop where
  mro : PySem.W.mroIn K C (.type "object") = some true
  eq : PySem.W.findIn K (.ref C) "__eq__" = some (some (.builtin "object.__eq__"))
  ne : PySem.W.findIn K (.ref C) "__ne__" = some (some (.builtin "object.__ne__"))
/-- o == o -/
def rEqI (C : Addr) : R2 := fun x y H Q => ∃ a dx fs, x = .ref a ∧ y = .ref a ∧ H a = some (.ins C dx fs) ∧ Q (.bl true) H
theorem op_eqI (B : ByIdent X.K C) (hr : Room k X.A) : OpR X (compareOp .Eq) (rEqI C) := by
  intro pins s σ H x y v u Q I rx ry h
  obtain ⟨a, dx, fs, rfl, rfl, ha, q⟩ := h
  cases rx
  cases ry
  obtain ⟨mA, J, _⟩ := ins_get I.hok ha
  obtain ⟨od, J, _⟩ := J.look
  show wpAny (model X.prog X.w) X.A (richCompare .Eq (.ref a) (.ref a)) (EP X pins σ Q) X.xe s
  exact rc_eqSame hr.units0 I.kIn J B.mro B.eq ⟨.bl true, H, I, rfl, q⟩
/-- o != p, two of one class -/
def rNeI (C : Addr) : R2 := fun x y H Q => ∃ a b dx fs dy gs, x = .ref a ∧ y = .ref b ∧ a ≠ b ∧ H a = some (.ins C dx fs) ∧ H b = some (.ins C dy gs) ∧ Q (.bl true) H
theorem op_neI (B : ByIdent X.K C) (hr : Room k X.A) : OpR X (compareOp .NotEq) (rNeI C) := by
  intro pins s σ H x y v u Q I rx ry h
  obtain ⟨a, b, dx, fs, dy, gs, rfl, rfl, hab, ha, hb, q⟩ := h
  cases rx
  cases ry
  obtain ⟨mA, J, _⟩ := ins_get I.hok ha
  obtain ⟨od, J, _⟩ := J.look
  obtain ⟨mB, J2, _⟩ := ins_get I.hok hb
  obtain ⟨oe, J2, _⟩ := J2.look
  show wpAny (model X.prog X.w) X.A (richCompare .NotEq (.ref a) (.ref b)) (EP X pins σ Q) X.xe s
  have hu1 : X.A.in1.units < cLine := by have := hr.un; show X.A.units + 1 < cLine; omega
  exact rc_neOther hr.units0 hu1 I.kIn J J2 hab B.mro B.eq B.ne ⟨.bl true, H, I, rfl, q⟩
end
end Way

/-! data whose showing fits -/
namespace Way
open PySem PySem.Spec PyProof.Rows L2
structure Shw (n m : Nat) (d : PyData) : Prop where
  sh : d.showable = true
  lv : d.leavesShort 300 = true
  wt : d.weight ≤ n
  dp : d.depth ≤ m
  nd : d.hasDict = false
structure ShwA (n m : Nat) (ds : List PyData) : Prop where
  sh : PyData.showableAll ds = true
  lv : PyData.leavesShortAll 300 ds = true
  wt : PyData.weightAll ds ≤ n
  dp : PyData.depthAll ds ≤ m
  nd : PyData.hasDictAll ds = false
theorem sw_nil {m : Nat} : ShwA 0 m [] := ⟨by simp [PyData.showableAll], by simp [PyData.leavesShortAll], by simp [PyData.weightAll], by simp [PyData.depthAll], by simp [PyData.hasDictAll]⟩
theorem sw_cons {a b m : Nat} {d : PyData} {ds : List PyData} (h : Shw a m d) (t : ShwA b m ds) : ShwA (a + 1 + b) m (d :: ds) :=
  ⟨by simp [PyData.showableAll, h.sh, t.sh], by simp [PyData.leavesShortAll, h.lv, t.lv], by have := h.wt; have := t.wt; simp only [PyData.weightAll]; omega, by have := h.dp; have := t.dp; simp only [PyData.depthAll]; omega, by simp [PyData.hasDictAll, h.nd, t.nd]⟩
theorem ShwA.le {a b m : Nat} {ds : List PyData} (h : ShwA a m ds) (e : a ≤ b) : ShwA b m ds := ⟨h.sh, h.lv, Nat.le_trans h.wt e, h.dp, h.nd⟩
theorem sw_all {a m : Nat} : ∀ {ds : List PyData}, (∀ d ∈ ds, Shw a m d) → ShwA ((a + 1) * ds.length) m ds
  | [], _ => sw_nil
  | d :: ds, h => (sw_cons (h d (List.mem_cons_self ..)) (sw_all fun x hx => h x (List.mem_cons_of_mem _ hx))).le (by rw [List.length_cons, Nat.mul_add]; omega)
theorem sw_tup {a m : Nat} {ds : List PyData} (h : ShwA a m ds) : Shw a (m + 1) (.tuple ds) :=
  ⟨by simp only [PyData.showable]; exact h.sh, by simp only [PyData.leavesShort]; exact h.lv, by simp only [PyData.weight]; exact h.wt, by simp only [PyData.depth]; have := h.dp; omega, by simp only [PyData.hasDict]; exact h.nd⟩
theorem sw_lst {a m : Nat} {ds : List PyData} (h : ShwA a m ds) : Shw a (m + 1) (.list ds) :=
  ⟨by simp only [PyData.showable]; exact h.sh, by simp only [PyData.leavesShort]; exact h.lv, by simp only [PyData.weight]; exact h.wt, by simp only [PyData.depth]; have := h.dp; omega, by simp only [PyData.hasDict]; exact h.nd⟩
theorem Shw.le {a b m k : Nat} {d : PyData} (h : Shw a m d) (e : a ≤ b) (f : m ≤ k) : Shw b k d := ⟨h.sh, h.lv, Nat.le_trans h.wt e, Nat.le_trans h.dp f, h.nd⟩
theorem sw_non {m : Nat} : Shw 0 m .none := ⟨by simp [PyData.showable], by simp [PyData.leavesShort], by simp [PyData.weight], by simp [PyData.depth], by simp [PyData.hasDict]⟩
theorem sw_int {i : Int} {m : Nat} (h : i.natAbs.log2 < 200) : Shw 200 m (.int i) := by
  refine ⟨by simp only [PyData.showable]; exact decide_eq_true (by omega), ?_, ?_, by simp only [PyData.depth]; omega, by simp only [PyData.hasDict]⟩
  · have := int_text_length_le (a := i) (k := 200) (by decide) h
    simp only [PyData.leavesShort, PyData.shown]
    refine decide_eq_true ?_
    rw [PySem.ofString_length]
    omega
  · simp only [PyData.weight]
    split <;> omega
theorem sw_str {x : Str} {m : Nat} (h : x.cps.toList.all (fun c => decide (c < 16 ^ 8)) = true) : Shw x.cps.size m (.str x) :=
  ⟨by simp only [PyData.showable], by simp only [PyData.leavesShort]; exact h, by simp only [PyData.weight]; omega, by simp only [PyData.depth]; omega, by simp only [PyData.hasDict]⟩
theorem Shw.fits {n m : Nat} {d : PyData} (h : Shw n m d) (e : n ≤ 50000) : d.shown.length ≤ sizeLine := by
  have h1 := PyData.shown_le 300 (by decide) d h.lv
  have h2 := h.wt
  have h3 : sizeLine = 16777216 := rfl
  rw [h3]
  have h4 : (300 + 2) * d.weight ≤ 302 * 50000 := Nat.mul_le_mul_left _ (by omega)
  omega
section
variable {X : Cx} {k : Nat}
/-- repr of None or of data at an address -/
def rReprO (K : PySem.W.Frag) : List V → Hp → VK → Prop := fun xs H Q => ∃ v d n m, xs = [v] ∧ (v = .non ∨ ∃ a, v = .ref a) ∧ Dp K H v d ∧ Shw n m d ∧ n ≤ 50000 ∧ m ≤ 60 ∧ Q (.str d.shown) H
theorem call_reprO (hgd : X.A.guards = some []) (hr : Room k X.A) : CallR X (.builtin "repr") (rReprO X.K) := by
  intro pins s σ H xs us Q I r h
  obtain ⟨v, d, n, m, rfl, hv, hd, hs, hn, hm, q⟩ := h
  rcases hv with rfl | ⟨a, rfl⟩
  · obtain ⟨u, rfl, rx⟩ := vals1 r
    cases rx
    cases hd
    refine P.repr_of_none ?_
    have q' : Q (.str "None") H := by simpa only [PyData.shown] using q
    exact ⟨.str "None", H, I.tok _, ⟨_, rfl⟩, q'⟩
  · exact call_reprD hgd hr pins s σ H _ us Q I r ⟨a, d, rfl, hd, hs.sh, Nat.le_trans hs.dp hm, hs.nd, hs.fits hn, q⟩
end
end Way

/-! the pen that a law draws from: a dict of six texts -/
namespace Way
open PySem PySem.Spec PyProof.Rows L2 Evl
section
variable {H : Hp} {σ : L2.St} {td ty te : TE} {D : Ends} {tz : TS}
theorem ev_dget {a : Addr} {y v : V} (h1 : Ev td σ H (.ref a)) (h2 : Ev ty σ H y) (g : ∀ H1, Ex H H1 → DGet H1 a y (some v)) : Ev (tDGet td ty) σ H v := fun H1 e Q q =>
  h1 H1 e _ fun H2 e2 => h2 H2 (e.trans e2) _ fun H3 e3 => ⟨a, v, rfl, g H3 ((e.trans e2).trans e3), q H3 (e2.trans e3)⟩
theorem ev_dgetK {a : Addr} {kvs : List (Key × V)} {k : Str} {v : V} (h1 : Ev td σ H (.ref a)) (h2 : Ev ty σ H (.str k)) (h : H a = some (.dK kvs)) (hv : valV kvs (.inr k) = some v) : Ev (tDGet td ty) σ H v :=
  ev_dget h1 h2 fun H1 e => hv ▸ DGet.k (k := .inr k) (e _ _ h)
theorem s_dput {a : Addr} {kvs : List (Key × V)} {k : Str} {v : V} (h : H a = some (.dK kvs)) (hv : Ev te σ H v) (h1 : Ev td σ H (.ref a)) (h2 : Ev ty σ H (.str k)) (hz : kvs.length < 100000) (q : ∀ H1, Ex H H1 → D.nx σ (upd H1 a (.dK (putK kvs (.inr k) v)))) :
    tAsg te (gSub td ty rSetD) D σ H := hv H (Ex.refl H) _ fun H1 e1 => h1 H1 e1 _ fun H2 e2 => h2 H2 (e1.trans e2) _ fun H3 e3 =>
  ⟨a, _, rfl, DPut.k (k := .inr k) (((e1.trans e2).trans e3) _ _ h) (sz_lt hz), q H3 ((e1.trans e2).trans e3)⟩
theorem q_dput {a : Addr} {kvs : List (Key × V)} {k : Str} {v : V} (h : H a = some (.dK kvs)) (hv : Ev te σ H v) (h1 : Ev td σ H (.ref a)) (h2 : Ev ty σ H (.str k)) (hz : kvs.length < 100000) (q : ∀ H1, Ex H H1 → tz D σ (upd H1 a (.dK (putK kvs (.inr k) v)))) :
    tSeq (tAsg te (gSub td ty rSetD)) tz D σ H := s_dput (D := { D with nx := tz D }) h hv h1 h2 hz q
end
def penK (c : Addr) (i r d m t : Int) : List (Key × V) := [(.inr "cells", .ref c), (.inr "at", .int i), (.inr "rest", .int r), (.inr "digits", .int d), (.inr "mix", .int m), (.inr "turn", .int t)]
theorem kne {x y : Str} (h : x ≠ y) : ¬ (Sum.inr x : Key) = Sum.inr y := fun e => h (Sum.inr.inj e)
section
variable {c : Addr} {i r d m t z : Int}
theorem pk_cells : valV (penK c i r d m t) (.inr "cells") = some (.ref c) := valV_pos rfl
theorem pk_at : valV (penK c i r d m t) (.inr "at") = some (.int i) := (valV_neg (kne (by decide +kernel))).trans (valV_pos rfl)
theorem pk_rest : valV (penK c i r d m t) (.inr "rest") = some (.int r) := (valV_neg (kne (by decide +kernel))).trans ((valV_neg (kne (by decide +kernel))).trans (valV_pos rfl))
theorem pk_digits : valV (penK c i r d m t) (.inr "digits") = some (.int d) := (valV_neg (kne (by decide +kernel))).trans ((valV_neg (kne (by decide +kernel))).trans ((valV_neg (kne (by decide +kernel))).trans (valV_pos rfl)))
theorem pk_mix : valV (penK c i r d m t) (.inr "mix") = some (.int m) := (valV_neg (kne (by decide +kernel))).trans ((valV_neg (kne (by decide +kernel))).trans ((valV_neg (kne (by decide +kernel))).trans ((valV_neg (kne (by decide +kernel))).trans (valV_pos rfl))))
theorem pk_turn : valV (penK c i r d m t) (.inr "turn") = some (.int t) := (valV_neg (kne (by decide +kernel))).trans ((valV_neg (kne (by decide +kernel))).trans ((valV_neg (kne (by decide +kernel))).trans ((valV_neg (kne (by decide +kernel))).trans ((valV_neg (kne (by decide +kernel))).trans (valV_pos rfl)))))
theorem kcons_ne {x y : Str} {v w : V} (h : x ≠ y) : (if (Sum.inr x : Key) = Sum.inr y then ((Sum.inr x : Key), w) else (Sum.inr x, v)) = (Sum.inr x, v) := if_neg (kne h)
theorem kcons_eq {x : Str} {v w : V} : (if (Sum.inr x : Key) = Sum.inr x then ((Sum.inr x : Key), w) else (Sum.inr x, v)) = (Sum.inr x, w) := if_pos rfl
theorem put_has {kvs : List (Key × V)} {k : Key} {v : V} (h : (valV kvs k).isSome = true) : putK kvs k v = kvs.map fun kv => if kv.1 = k then (kv.1, v) else kv := by
  unfold putK
  rw [if_pos (by rw [valV_any]; exact h)]
theorem pp_at : putK (penK c i r d m t) (.inr "at") (.int z) = penK c z r d m t := by
  rw [put_has (by rw [pk_at]; rfl)]
  unfold penK
  simp only [List.map_cons, List.map_nil]
  rw [kcons_ne (by decide +kernel), if_pos True.intro, kcons_ne (by decide +kernel), kcons_ne (by decide +kernel), kcons_ne (by decide +kernel), kcons_ne (by decide +kernel)]
theorem pp_rest : putK (penK c i r d m t) (.inr "rest") (.int z) = penK c i z d m t := by
  rw [put_has (by rw [pk_rest]; rfl)]
  unfold penK
  simp only [List.map_cons, List.map_nil]
  rw [kcons_ne (by decide +kernel), kcons_ne (by decide +kernel), if_pos True.intro, kcons_ne (by decide +kernel), kcons_ne (by decide +kernel), kcons_ne (by decide +kernel)]
theorem pp_digits : putK (penK c i r d m t) (.inr "digits") (.int z) = penK c i r z m t := by
  rw [put_has (by rw [pk_digits]; rfl)]
  unfold penK
  simp only [List.map_cons, List.map_nil]
  rw [kcons_ne (by decide +kernel), kcons_ne (by decide +kernel), kcons_ne (by decide +kernel), if_pos True.intro, kcons_ne (by decide +kernel), kcons_ne (by decide +kernel)]
theorem pp_mix : putK (penK c i r d m t) (.inr "mix") (.int z) = penK c i r d z t := by
  rw [put_has (by rw [pk_mix]; rfl)]
  unfold penK
  simp only [List.map_cons, List.map_nil]
  rw [kcons_ne (by decide +kernel), kcons_ne (by decide +kernel), kcons_ne (by decide +kernel), kcons_ne (by decide +kernel), if_pos True.intro, kcons_ne (by decide +kernel)]
theorem pp_turn : putK (penK c i r d m t) (.inr "turn") (.int z) = penK c i r d m z := by
  rw [put_has (by rw [pk_turn]; rfl)]
  unfold penK
  simp only [List.map_cons, List.map_nil]
  rw [kcons_ne (by decide +kernel), kcons_ne (by decide +kernel), kcons_ne (by decide +kernel), kcons_ne (by decide +kernel), kcons_ne (by decide +kernel), if_pos True.intro]
theorem pk_made : mergeK [] (penK c i r d m t) = penK c i r d m t := by
  have h : ∀ (a b : List (Key × V)) (p : Key × V), valV a p.1 = none → mergeK a (p :: b) = mergeK (a ++ [p]) b := fun a b p e => by
    show mergeK (putK a p.1 p.2) b = _
    rw [putK_new _ e]
  unfold penK
  rw [h _ _ _ valV_nil, h _ _ _ (by rw [List.nil_append, valV_neg (kne (by decide +kernel)), valV_nil]),
    h _ _ _ (by simp only [List.nil_append, List.cons_append]; rw [valV_neg (kne (by decide +kernel)), valV_neg (kne (by decide +kernel)), valV_nil]),
    h _ _ _ (by simp only [List.nil_append, List.cons_append]; rw [valV_neg (kne (by decide +kernel)), valV_neg (kne (by decide +kernel)), valV_neg (kne (by decide +kernel)), valV_nil]),
    h _ _ _ (by simp only [List.nil_append, List.cons_append]; rw [valV_neg (kne (by decide +kernel)), valV_neg (kne (by decide +kernel)), valV_neg (kne (by decide +kernel)), valV_neg (kne (by decide +kernel)), valV_nil]),
    h _ _ _ (by simp only [List.nil_append, List.cons_append]; rw [valV_neg (kne (by decide +kernel)), valV_neg (kne (by decide +kernel)), valV_neg (kne (by decide +kernel)), valV_neg (kne (by decide +kernel)), valV_neg (kne (by decide +kernel)), valV_nil])]
  rfl
end
/-- a pen at p over the cells at c, drawn from at most k times -/
def Pen (H : Hp) (p c : Addr) (k : Nat) : Prop := ∃ (cs : List Int) (i r d m t : Int), H p = some (.dK (penK c i r d m t)) ∧ H c = some (.lst (cs.map V.int)) ∧ 0 ≤ i ∧ 0 ≤ d ∧ d ≤ 50 ∧ 0 ≤ m ∧ m < 2147483648 ∧ 0 ≤ t ∧ t ≤ k
theorem Pen.le {H : Hp} {p c : Addr} {j k : Nat} (h : Pen H p c j) (e : j ≤ k) : Pen H p c k := let ⟨cs, i, r, d, m, t, h1, h2, a1, a2, a3, a4, a5, a6, a7⟩ := h; ⟨cs, i, r, d, m, t, h1, h2, a1, a2, a3, a4, a5, a6, by omega⟩
theorem Pen.mono {H H' : Hp} {p c : Addr} {k : Nat} (h : Pen H p c k) (e : Same H H') : Pen H' p c k := let ⟨cs, i, r, d, m, t, h1, h2, a⟩ := h; ⟨cs, i, r, d, m, t, e _ _ h1, e _ _ h2, a⟩
theorem Pen.kp {H H' : Hp} {s p c : Addr} {k : Nat} (h : Pen H p c k) (e : Kp s H H') (n1 : p ≠ s) (n2 : c ≠ s) : Pen H' p c k := let ⟨cs, i, r, d, m, t, h1, h2, a⟩ := h; ⟨cs, i, r, d, m, t, e _ _ n1 h1, e _ _ n2 h2, a⟩
theorem Pen.here {H : Hp} {p c : Addr} {k : Nat} (h : Pen H p c k) : ∃ kvs, H p = some (.dK kvs) := let ⟨_, _, _, _, _, _, h1, _⟩ := h; ⟨_, h1⟩
theorem Pen.cells {H : Hp} {p c : Addr} {k : Nat} (h : Pen H p c k) : ∃ cs : List Int, H c = some (.lst (cs.map V.int)) := let ⟨cs, _, _, _, _, _, _, h2, _⟩ := h; ⟨cs, h2⟩
theorem Pen.ne {H : Hp} {p c q : Addr} {k : Nat} (h : Pen H p c k) (e : H q = none) : q ≠ p := let ⟨o, ho⟩ := h.here; fun z => by rw [z, ho] at e; cases e
theorem Pen.neC {H : Hp} {p c q : Addr} {k : Nat} (h : Pen H p c k) (e : H q = none) : q ≠ c := let ⟨o, ho⟩ := h.cells; fun z => by rw [z, ho] at e; cases e
theorem Pen.upd {H : Hp} {p c q : Addr} {k : Nat} {o : HO} (h : Pen H p c k) (n1 : q ≠ p) (n2 : q ≠ c) : Pen (upd H q o) p c k := let ⟨cs, i, r, d, m, t, h1, h2, a⟩ := h; ⟨cs, i, r, d, m, t, (upd_ne n1.symm).trans h1, (upd_ne n2.symm).trans h2, a⟩
end Way

/-! an own exception's __init__ that begins with super().__init__(..) -/
namespace Way
open PySem PySem.Spec PyProof.Rows L2 NdefX
/-- what the written part says of the def: its function, code, the cell of its class -/
structure SupFn (K : PySem.W.Frag) (prog : Program) (name qual : Str) (st : Stmt) (f : Addr) (fd : FuncData) (D c cc : Addr) : Prop where
  ex : ∃ (oc kV doc pm ct : Value) (od an : Option Addr) (osl : Array (Option Value)), fd = PySem.W.fnX name qual (defArgs st) (defBody st) (defScope st) [("__class__", cc)] .none kV doc pm an (.ref c) ct ∧ K.lookup f = some ⟨oc, od, .func fd, osl⟩
  cd : PySem.W.codeIn K (.ref c) qual = true
  file : ∃ (ccl : Value) (cdd : Option Addr) (vs : Array Value) (ccs : Array (Option Value)) (file : Str) (tf : Tok), K.lookup c = some ⟨ccl, cdd, .fields vs, ccs⟩ ∧ vs[2]? = some (.str file tf) ∧ ((prog.main.file : Str) == file) = true
  cell : ∃ (cl : Value) (cld : Option Addr) (csl : Array (Option Value)), K.lookup cc = some ⟨cl, cld, .cell (some (.ref D)), csl⟩
  sub : PySem.W.mroIn K D (.ref D) = some true
  opq : PySem.W.nsIn K cStatics "thirdparty.any" = some none
  sup : PySem.W.ks_superIn K D D "__init__" = some (some (.builtin "ValueError.__init__"))
  ve : PySem.W.subIn K (.ref D) (.type "ValueError") = some true
  top : (prog.main.scope.names.lookup ("super" : Str)).isSome = false
section
variable {X : Cx} {pins : List (Addr × Obj)} {σ : L2.St} {H : Hp} {s : Shared} {a C u : Addr} {E : Value → Shared → Prop} {A : Around}
/-- the bound ValueError.__init__ is called -/
theorem mw_init {us : List Value} {Q : Value → Shared → Prop} (T : OexC X.K C) (I : Inv X pins σ H s) (e : H a = some (exo a C none)) (hu : s.heap.get? u = some (PySem.W.kxs_mw "ValueError.__init__" a)) (hl : us.length ≤ sizeLine) (h : ∀ s', Inv X pins σ H s' → Q .none s') :
    wpAny (model X.prog X.w) A (call (.ref u) us) Q E s := by
  obtain ⟨nm, q, N, bs, bm, sn, sub, ab, col, dd, k0, k1, k2, k3, k5, hC, hbm⟩ := T.cls
  obtain ⟨t1, ho⟩ := exo_at I.hok e
  have KX := I.kIn
  obtain ⟨hp, g, d, t, os⟩ := s
  refine wpAny_call (codeAny_of_tree ?_)
  show wpAny _ A.in1 (callAny (.ref u) ⟨us, []⟩) _ _ _
  simp only [callAny]
  refine wpAny_bind (wpAny_load hu ?_)
  simp only [PySem.W.kxs_mw, show (Value.type "method-wrapper" == Value.type "method" || Value.type "method-wrapper" == Value.type "builtin_function_or_method" || Value.type "method-wrapper" == Value.type "method-wrapper") = true by decide, if_true]
  refine PySem.W.KFB.if_so (by decide) ?_
  refine wpAny_bind (PySem.W.check_bound_init F.excBase_ValueError.toExcCallFacts (KX _ _ hC) ho rfl ?_)
  refine wpAny_bind (wpAny_pure (wpAny_pure ?_))
  refine ⟨plainId_quiet F.excBase_ValueError.init.plain _, codeAny_builtin F.excBase_ValueError.initEntry ?_⟩
  refine PySem.W.exc_init_tree (cls := .ref C) (t0 := t1) (dv := none) (c2 := .none) (c3 := .none) (b4 := .bool false) ho hl fun h' k hx ht => ?_
  have J := I.write (t' := t) (x := a) (e := a) (o := exo a C none) (by rw [e]; exact True.intro) (.inl rfl) k ⟨_, hx⟩ (exo_ok hx)
  have eu : upd H a (exo a C none) = H := by
    funext b
    by_cases hb : b = a
    · rw [hb, upd_same, e]
    · rw [upd_ne hb]
  rw [eu] at J
  exact h _ J
end
section
variable {P : Program} {w : World} {K : PySem.W.Frag} {mg : Str → Option Value} {base : Heap} {N ps : List Str} {name qual : Str} {st : Stmt} {f D c cc : Addr} {fd : FuncData} {k : Nat} {sp : Sp} {rest : List Stmt} {xm : Str} {kk : Nat} {p5 p0 p1 p2 p3 p4 : Pos} {ar : Arg}
abbrev supF (name qual : Str) (st : Stmt) (cc c : Addr) : NF := ⟨name, qual, defArgs st, defBody st, defScope st, [("__class__", cc)], c⟩
theorem superOk (Fn : SupFn K P name qual st f fd D c cc) (T : OexC K D) (S : NScope N ps ["__class__"] (defScope st)) (len : ∀ vs H Q E, sp vs H Q E → vs.length = ps.length)
    (hb0 : defBody st = .Expr (.Call (.Attribute (.Call (.Name "super" p0) [] [] p1) "__init__" p2) [.Constant (.str xm) kk p5] [] p3) p4 :: rest)
    (hself : ((defArgs st).posonlyargs ++ (defArgs st).args).head? = some ar) (hps : ps.head? = some ar.arg) (hks : (defScope st).names.lookup ("super" : Str) = some .globalImplicit) (hm : mg "super" = none)
    (hst1 : ∀ env : Env, starEach [.Constant (.str xm) kk p5] env = (false, eval (.Constant (.str xm) kk p5) env) :: starEach [] env) (hsw : ∀ env : Env, swapsWith (.Call (.Attribute (.Call (.Name "super" p0) [] [] p1) "__init__" p2) [.Constant (.str xm) kk p5] [] p3) none p4.line env = pure false)
    (hmc : ∀ env : Env, ∃ pl : Sem Bool, eval (.Call (.Attribute (.Call (.Name "super" p0) [] [] p1) "__init__" p2) [.Constant (.str xm) kk p5] [] p3) env = (do
      let ov ← attributeBase (.Call (.Name "super" p0) [] [] p1) "__init__" env (eval (.Call (.Name "super" p0) [] [] p1) env)
      standAt p2.atName
      let (f, first) ← holding [ov] (getMethod ov "__init__" pl)
      callWith p3 f first (backTo p3 (starEach [.Constant (.str xm) kk p5] env)) []))
    (hrest : ∀ (A : Around) (outer : List Env) (s : Shared) (H : Hp) (vs : List V) (Q : VK) (E : XK), Room k (A.deeper (envF (supF name qual st cc c) f s.heap.objs.size)) → sp vs H Q E →
      ∃ a vs', vs = .ref a :: vs' ∧ H a = some (exo a D none) ∧ ∃ t, PSs (ncx CX0 P w K mg base N (supF name qual st cc c) f A outer s H E) rest t ∧ t { nx := fun _ H' => Q .non H', rt := Q } (startF N vs [some (.ref D)]) H) :
    FnOk P w K mg base CX0 (k + 1) f fd ps sp := by
  refine ⟨len, fun A outer s H args us vs Q E hr e0 hb r hsp => ?_⟩
  obtain ⟨oc, kV, doc, pm, ct, od, an, osl, rfl, lk⟩ := Fn.ex
  obtain ⟨ccl, cdd, fvs, ccs, file, tf, lc, hvs, hfile⟩ := Fn.file
  obtain ⟨cl, cld, csl, lcc⟩ := Fn.cell
  have hl := len _ _ _ _ hsp
  have KX : K.In s.heap := e0.mod.kin.keeps fun b o e => (e0.bs b o e).1
  have lim : s.heap.NoLimit := e0.mod.nolimit.keeps fun b o e => (e0.bs b o e).1
  have hH : H cc = none := (e0.bs _ _ (e0.mod.kin _ _ lcc)).2
  have hCl : CellsAt [("__class__", cc)] ["__class__"] [some (.ref D)] s.heap H := by
    have one : ∀ {y : Str} {c' : Addr}, ([("__class__", cc)] : List (Str × Addr)).lookup y = some c' → y = "__class__" ∧ c' = cc := fun {y c'} h => by
      rw [List.lookup_cons] at h
      cases e : (y == ("__class__" : Str)) with
      | true => rw [e] at h; exact ⟨eq_of_beq e, (Option.some.inj h).symm⟩
      | false => rw [e] at h; cases h
    refine ⟨rfl, fun y c' h => ?_, fun x y c' h1 h2 => ?_, fun i y h => ?_⟩
    · obtain ⟨_, rfl⟩ := one h
      exact ⟨hH, _, _, KX _ _ lcc, rfl⟩
    · rw [(one h1).1, (one h2).1]
    · match i, h with
      | 0, h =>
        cases h
        refine ⟨cc, by simp [List.lookup], fun v hv => ?_⟩
        cases hv
        exact ⟨.ref D, rfl, _, KX _ _ lcc, rfl⟩
  obtain ⟨a, vs', rfl, ha, t, ht, hq⟩ := hrest A outer s H vs Q E (hr.deeper _) hsp
  refine PySem.ks_codeAny_call_defAt hr.depth (KX _ _ lk) rfl lim (PySem.W.codeRec_of KX Fn.cd) rfl hb S.nocell (fun ⟨n, _⟩ hy => S.par n (List.of_mem_zip hy).1) (fun h₁ hns kp => ?_) S.co S.gen S.kind
  have I : Inv (ncx CX0 P w K mg base N (supF name qual st cc c) f A outer s H E) [] (startF N (.ref a :: vs') [some (.ref D)]) H { s with heap := h₁, toks := s.toks + (ps.zip us).length } := inv_startN S hr.hd e0 hl r hCl hns kp
  show PySem.wpAt (model P w) (A.deeper (envF (supF name qual st cc c) f s.heap.objs.size)) (.func (defBody st) (envF (supF name qual st cc c) f s.heap.objs.size)) (execs (defBody st) (envF (supF name qual st cc c) f s.heap.objs.size)) _ _ _
  have KX1 : K.In h₁ := KX.keeps kp
  obtain ⟨t1, ho1⟩ := exo_at I.hok ha
  have hnsL : h₁.Ns s.heap.objs.size fun y => (ps.zip us).reverse.lookup y := hns
  cases r with
  | @cons _ u0 _ ur ra rr =>
  obtain rfl : u0 = Value.ref a := ra
  have hkA : (defScope st).names.lookup ar.arg = some .local := S.par _ (List.mem_of_head? hps)
  have hself' : ((ps.zip (Value.ref a :: ur)).reverse).lookup ar.arg = some (.ref a) := by
    have ndP : ps.Nodup := by
      have q := S.nd.sublist (List.take_sublist (ps.length + (["__class__"] : List Str).length) N)
      rw [S.pre] at q
      exact (List.nodup_append.mp q).1
    refine zip_look (i := 0) ndP ?_ rfl
    rw [← hps, List.head?_eq_getElem?]
  have hkc : (defScope st).names.lookup ("__class__" : Str) = some .free := S.frk _ (List.mem_singleton.mpr rfl)
  obtain ⟨oD, hD1, cdD, hD2, hcD⟩ : ∃ oD, h₁.get? D = some oD ∧ ∃ cd, oD.data = .cls cd ∧ PySem.W.clsIn K D = some cd := by
    obtain ⟨nm, q, N', bs, bm, sn, sub, ab, col, dd, k0, k1, k2, k3, k5, hC, hbm⟩ := T.cls
    refine ⟨_, KX1 _ _ hC, _, rfl, ?_⟩
    unfold PySem.W.clsIn
    rw [hC]
  have hex : execs (defBody st) (envF (supF name qual st cc c) f s.heap.objs.size) = execs (.Expr (.Call (.Attribute (.Call (.Name "super" p0) [] [] p1) "__init__" p2) [.Constant (.str xm) kk p5] [] p3) p4 :: rest) (envF (supF name qual st cc c) f s.heap.objs.size) := congrArg (fun b => execs b (envF (supF name qual st cc c) f s.heap.objs.size)) hb0
  rw [hex]
  have hin : interactive (envF (supF name qual st cc c) f s.heap.objs.size) = false := by
    have hk : (envF (supF name qual st cc c) f s.heap.objs.size).scope.kind = .function := S.kind
    unfold interactive
    rw [hk]
    rfl
  obtain ⟨pl, he⟩ := hmc (envF (supF name qual st cc c) f s.heap.objs.size)
  obtain ⟨mb, hb1, hb2⟩ := I.mod.blt
  have haD : a ≠ D := fun z => by
    obtain ⟨nm, q, N', bs, bm, sn, sub, ab, col, dd, k0, k1, k2, k3, k5, hC, hbm⟩ := T.cls
    rw [z, (e0.bs _ _ (e0.mod.kin _ _ hC)).2] at ha
    cases ha
  have hsup : PySem.W.alongIn K "__init__" ((cdD.mro.dropWhile (· != .ref D)).drop 1) = some (some (.builtin "ValueError.__init__")) := by
    have q := Fn.sup
    unfold PySem.W.ks_superIn at q
    rw [hcD] at q
    exact q
  refine PySem.ks_wpAt_execs_cons (PySem.ks_wpAt_Expr_any (PySem.ks_wpAt_MethodCall ?_ he) hin (hsw _))
  refine PySem.ks_wpAt_super_base (env := envF (supF name qual st cc c) f s.heap.objs.size) hks hkc (by decide) rfl (KX1 _ _ lk) rfl hself rfl (KX1 _ _ lc) rfl hvs hfile Fn.top ?_
  refine PySem.W.ks_loadName_global S.kind hks (Calls.loadGlobal_builtin (I.mod.glob.keeps I.bk) hm (hb1.keeps I.bk) ((hb2 _ (by decide)).trans (by decide +kernel)) ⟨rfl, ?_⟩)
  refine wpAny_loadName_free (env := envF (supF name qual st cc c) f s.heap.objs.size) S.kind hkc rfl ⟨_, KX1 _ _ lcc, rfl⟩ ?_
  refine wpAny_loadName_local (env := envF (supF name qual st cc c) f s.heap.objs.size) S.kind hkA hnsL hself' ?_
  refine PySem.ks_wpAny_isType_cls hD1 hD2 ⟨rfl, ?_⟩
  refine PySem.ks_wpAny_call_super hD1 hD2 ho1 rfl (fun c e => by cases e) (PySem.W.looks_mroIn KX1 Fn.sub) (fun h2 e2 kp2 => ?_)
  have J := I.kept (t' := s.toks + (ps.zip (Value.ref a :: ur)).length) kp2
  have KX2 := KX1.keeps kp2
  have at2 : PySem.W.InstAt h2 a _ D none := ⟨kp2 _ _ ho1, rfl, rfl, trivial⟩
  refine PySem.W.kxs_getMethod PySem.W.kxs_ValueError e2 (PySem.W.looks_opaque KX2 Fn.opq) (l₀ := cdD.mro) (fun A Q E s k q => wpAny_bind ((PySem.W.looks_clsIn KX2 hcD) A _ E s k (wpAny_pure q))) rfl KX2 hsup (at2.type.andThen (PySem.W.looks_subIn KX2 Fn.ve)) haD (by decide) ?_
  have kp3 : ∀ b o, h2.get? b = some o → (h2.push (PySem.W.kxs_mw "ValueError.__init__" a)).get? b = some o := fun b o e => Heap.get?_push_of_some _ e
  have hmw : (h2.push (PySem.W.kxs_mw "ValueError.__init__" a)).get? h2.objs.size = some (PySem.W.kxs_mw "ValueError.__init__" a) := Heap.get?_push_at rfl rfl
  have J3 := J.kept (t' := s.toks + (ps.zip (Value.ref a :: ur)).length + 1) kp3
  rw [hst1]
  refine PySem.W.kxs_callWith (i := "ValueError.__init__") (x := a) rfl (Calls.evalArgs_plain (Calls.spliced_cons (Calls.Constant_str (k := kk) (pos := p5) (Calls.spliced_nil ⟨hmw, ?_⟩))))
  refine mw_init (X := ncx CX0 P w K mg base N (supF name qual st cc c) f A outer s H E) T (J3.tok _) ha hmw (by show 1 ≤ sizeLine; decide) fun s4 J4 => ?_
  refine wpAt_of_wpAny (wpAny_mono (ht.run [] s4 _ H _ J4 hq) (fun fl s' hs => ?_) fun e s' hs => hs)
  have fin : ∀ {σ' : L2.St} {H' : Hp} {v : V} {u : Value}, Inv (ncx CX0 P w K mg base N (supF name qual st cc c) f A outer s H E) [] σ' H' s' → L2.RelV v u → Q v H' → CE outer P w H s Q u s' :=
    fun {σ' H' v u} J rv q => ⟨v, H', J.os, J.bare, J.base, J.hok, rv, q⟩
  cases fl with
  | ret u =>
    obtain ⟨v, σ', H', J, rv, q⟩ := hs
    exact fin J rv q
  | next =>
    obtain ⟨σ', H', J, q⟩ := hs
    exact fin (v := V.non) (u := Value.none) J rfl q
  | brk =>
    obtain ⟨_, _, _, q⟩ := hs
    exact False.elim q
  | cont =>
    obtain ⟨_, _, _, q⟩ := hs
    exact False.elim q
end
end Way

/-! own exceptions as values -/
namespace Way
open PySem PySem.Spec PyProof.Rows L2
/-- C(e, ..) as a value: C's own __init__ keeps sp -/
def tMkX (C : Addr) (sp : Sp) (dvs : List V) (E : XK) (ta : TA) : TE := fun σ H Q => ta σ H fun vs H1 => vs.length ≤ 1000 ∧ ∀ a, H1 a = none → sp (.ref a :: (vs ++ dvs)) (upd H1 a (exo a C none)) (fun v H2 => v = .non ∧ Q (.ref a) H2) E
section
variable {X : Cx} {e : Expr} {es : List Expr} {ta : TA} {p pos : Pos}
theorem pe_mkX {CX : CXT} {x : Str} {C fI : Addr} {k : Nat} {fd : FuncData} {ps : List Str} {sp : Sp} {ds : List Value} {dvs : List V} {E : XK} (T : OexC X.K C) (iC : PySem.W.findIn X.K (.ref C) "__init__" = some (some (.ref fI))) (tI : PySem.W.typeIn X.K (.ref fI) = some (.type "function"))
    (F1 : FnOk X.prog X.w X.K X.mg X.base CX k fI fd ps sp) (hr : Room (k + 1) X.A) (hb : Binds X.K fd ps ds) (hd : Vals dvs ds) (hx : Passes CX X E) (hg : Gl X x) (hm : X.mg x = some (.ref C)) (ha : PA X (e :: es) ta)
    (hdb : (x == ("__debug__" : Str)) = false := by decide) (he : starEach (e :: es) X.env = (false, eval e X.env) :: starEach es X.env := by rfl) (hpl : (backTo pos (starEach es X.env)).any (·.1) = false := by rfl) :
    PE X (.Call (.Name x p) (e :: es) [] pos) (tMkX C sp dvs E ta) := by
  refine ⟨fun pins s σ H Q I h => ?_⟩
  obtain ⟨nm, q, N, bs, bm, sn, sub, ab, col, dd, k0, k1, k2, k3, k5, hC, hbm⟩ := T.cls
  refine wpAny_Call_Name_kw (ld_glob I hg hm ?_ hdb)
  refine PySem.W.callWith_K (h₀ := X.base) I.ok.mod.kin T.kC (thn (ha.run pos pins s σ H _ I h) fun us s1 ⟨vs, H1, I1, r1, hz, q1⟩ => ⟨I1.kIn, ?_⟩) he hpl
  show wpAny _ _ (call (.ref C) us) _ _ _
  obtain ⟨hp, g, dr, tk, os⟩ := s1
  have hsz : hp.objs.size ≤ hp.objs.size + 1 := Nat.le_succ _
  have hn : H1 (hp.objs.size + 1) = none := I1.hok.fresh hsz
  have hq := q1 (hp.objs.size + 1) hn
  have kk : ∀ b o, hp.get? b = some o → ((hp.push (PySem.W.kdv_tup us)).push (PySem.HandSPX.excO C hp.objs.size)).get? b = some o := fun b o e => Heap.get?_push_of_some _ (Heap.get?_push_of_some _ e)
  have hget : ((hp.push (PySem.W.kdv_tup us)).push (PySem.HandSPX.excO C hp.objs.size)).get? (hp.objs.size + 1) = some (PySem.HandSPX.excO C hp.objs.size) := by heap_get
  have I2 : Inv X pins σ (upd H1 (hp.objs.size + 1) (exo (hp.objs.size + 1) C none)) ⟨(hp.push (PySem.W.kdv_tup us)).push (PySem.HandSPX.excO C hp.objs.size), g, dr, tk, os⟩ :=
    I1.laid (t' := tk) (a := hp.objs.size + 1) (o := exo (hp.objs.size + 1) C none) (h' := (hp.push (PySem.W.kdv_tup us)).push (PySem.HandSPX.excO C hp.objs.size)) kk hsz (exo_ok hget)
  have r2 : Vals (V.ref (hp.objs.size + 1) :: (vs ++ dvs)) (Value.ref (hp.objs.size + 1) :: (us ++ ds)) := .cons rfl (r1.append hd)
  have hl : (Value.ref (hp.objs.size + 1) :: us ++ ds).length = ps.length := by
    have e := r2.length
    rw [F1.len _ _ _ _ hq] at e
    exact e.symm
  have hus : us.length ≤ sizeLine := by
    rw [← Paired.length r1, sizeLine_eq]
    omega
  refine wpAny_call (PySem.HandSPX.call_own F.excBase_ValueError (fun Y => PySem.HandSPX.refsVE_contains Y bm hbm) (I1.kIn _ _ hC) (PySem.W.looks_findIn I1.kIn iC) (fun self => PySem.W.bind_fn I1.kIn self tI) hus
    (codeAny_mono (F1.run _ X.stack _ _ ⟨Value.ref (hp.objs.size + 1) :: us, []⟩ (Value.ref (hp.objs.size + 1) :: (us ++ ds)) _ _ E (hr.make C us []) (I2.env0.make C us []) (hb _ (Value.ref (hp.objs.size + 1) :: us) I2.kIn hl) r2 hq) fun r s' hq' => ?_))
  cases r with
  | error er => exact hx pins σ _ _ er s' I2 hq'
  | ok fl =>
    cases fl with
    | ret u =>
      obtain ⟨v, H', I3, rv, ev, q3⟩ := I2.after hq'
      subst ev
      exact ⟨rv, ⟨V.ref (hp.objs.size + 1), H', I3, rfl, q3⟩⟩
    | next => exact False.elim hq'
    | brk => exact False.elim hq'
    | cont => exact False.elim hq'
/-- e.f of such an exception -/
def tXv (K : PySem.W.Frag) (f : Str) (te : TE) : TE := fun σ H Q => te σ H fun x H1 => ∃ (a C dx : Addr) (fs : List (Str × V)) (v : V), x = .ref a ∧ XfC K C ∧ PySem.W.findIn K (.ref C) f = some none ∧ H1 a = some (exo a C (some dx)) ∧ H1 dx = some (exd dx fs) ∧ fs.lookup f = some v ∧ Q v H1
theorem pe_xv {o : Expr} {te : TE} {n : Str} (ho : PE X o te) (hb : attributeBase o n X.env (eval o X.env) = eval o X.env := by rfl) : PE X (.Attribute o n pos) (tXv X.K n te) := by
  refine ⟨fun pins s σ H Q I h => ?_⟩
  refine attr_of hb (thn (ho.run pins s σ H _ I h) fun u s1 hh => ?_)
  obtain ⟨x, H1, I1, rx, a, C, dx, fs, v, ex, T, hno, ea, ed, l, q⟩ := hh
  subst ex
  obtain rfl : u = Value.ref a := rx
  obtain ⟨t1, ho1⟩ := exo_at I1.hok ea
  obtain ⟨mA, hns, hr⟩ := exd_at I1.hok ed
  obtain ⟨od, hod, hl⟩ := lookIn_ns hns
  obtain ⟨u, hu, ru⟩ := RelO.some_of (v := v) (o := mA n) (by rw [← l]; exact hr n)
  have J : PySem.W.InstAt s1.heap a _ C (some od) := ⟨ho1, rfl, rfl, hod⟩
  exact HandSPX.exc_get I1.kIn J T.ga T.gg T.exC (PySem.W.findObj_own T.hdC hno rfl (by rw [hl, hu])) (handed_of ru) ⟨v, H1, I1.tok _, ru, q⟩
/-- isinstance(e, c), e an own exception as a value -/
def rIsX (K : PySem.W.Frag) : List V → Hp → VK → Prop := fun xs H Q => ∃ (a D : Addr) (d : Option Addr) (c : V) (cv : Value) (b : Bool), xs = [.ref a, c] ∧ H a = some (exo a D d) ∧ (∀ dx, d = some dx → ∃ fs, H dx = some (exd dx fs)) ∧ ExcC K D ∧ ClsV c cv ∧ PySem.W.kitOne K (.ref D) cv = some b ∧ Q (.bl b) H
theorem call_isX : CallR X (.builtin "isinstance") (rIsX X.K) := by
  intro pins s σ H xs us Q I r h
  obtain ⟨a, D, d, c, cv, b, rfl, ha, hdx, C, k, e, q⟩ := h
  obtain ⟨u1, u2, rfl, r1, r2⟩ := vals2 r
  cases r1
  have e2 := k.eq r2
  subst e2
  obtain ⟨t1, ho⟩ := exo_at I.hok ha
  have J : ∃ od, PySem.W.InstAt s.heap a { cls := .ref D, dict := d, data := .fields #[.ref t1, .none, .none, .none, .bool false, .none] } D od := by
    cases d with
    | none => exact ⟨none, ho, rfl, rfl, trivial⟩
    | some dx =>
      obtain ⟨fs, hf⟩ := hdx dx rfl
      obtain ⟨mA, hns, hr⟩ := exd_at I.hok hf
      obtain ⟨od, hod, hl⟩ := lookIn_ns hns
      exact ⟨some od, ho, rfl, rfl, hod⟩
  obtain ⟨od, J⟩ := J
  have hcl : (PySem.W.clsIn X.K D).isSome = true := by
    obtain ⟨cd, hc, _⟩ := PySem.W.any_some C.hd
    rw [hc]; rfl
  exact PySem.W.kia_one (PySem.W.kitx_exc hcl C.hg C.hk C.hs C.ha C.hn C.ht C.hm) I.kIn J e (fun z => nomatch z) fun tk => ⟨.bl b, H, I.tok tk, rfl, q⟩
/-- X(), an own exception class without own __init__, as a value -/
theorem pe_mkX0 {C : Addr} {bmB : List Value} {B newId initId : String} {x : Str} (F : ExcBaseFacts B newId initId bmB) (q : PySem.W.excIn X.K C bmB newId = true) (gC : X.mg x = some (.ref C)) (kC : PySem.W.keepIn X.K (.ref C) = true) (hg : Gl X x) (hdb : (x == ("__debug__" : Str)) = false := by decide) :
    PE X (.Call (.Name x p) [] [] pos) (fun σ H Q => ∀ a, H a = none → Q (.ref a) (upd H a (exo a C none))) := by
  refine ⟨fun pins s σ H Q I h => ?_⟩
  refine wpAny_Call_Name_kw (ld_glob I hg gC ?_ hdb)
  refine PySem.W.callWith_K0 I.kIn kC ?_
  show wpAny _ _ (call (.ref C) []) _ _ _
  obtain ⟨bm, N, nm, qn, bs, hdct, sn, sub, ab, col, dd, k0, k1, k2, k3, k5, mN, hC, hN, hni, T⟩ := exc_obj I.kIn q
  refine wpAny_call_exc_subT F T hC hN hni (fun h' a hm => ?_) (by show 0 ≤ sizeLine; exact Nat.zero_le _)
  have hn : H a = none := I.hok.gone hm.new
  obtain ⟨t, ht, _, _⟩ := hm.there
  exact ⟨.ref a, upd H a (exo a C none), I.laidN hm.keeps hm.new hn (exo_ok ht), rfl, h a hn⟩
end
end Way

/-! an own exception made by keywords -/
namespace Way
open PySem PySem.Spec PySem.HandSPX PySem.Calls
section
variable {M : Model} {A : Around} {E : Value → Shared → Prop} {h : Heap} {g : Array GenState} {d : Drawn} {t : Nat} {os : OsState}
variable {nm q : Str} {C N : Addr} {bs bm bmB : List Value} {hdct : Bool} {sn : List Str} {sub : List Value} {ab : Bool} {col : Option Bool} {dd : Option Addr} {k0 k1 k2 k3 k5 : Option Value} {B newId initId : String} {kw : List (Str × Value)}
theorem check_new_ownK (F : ExcBaseFacts B newId initId bmB) (hT : ∀ X : String, bm.contains (.type X) = bmB.contains (.type X)) {rest : List Value} {Q : Unit → Shared → Prop}
    (hC : h.get? C = some (excClassObj nm q C N bs bm hdct sn sub ab col dd k0 k1 k2 k3 k5 newId)) (hq : Q () ⟨h, g, d, t, os⟩) : wpAny M A (checkBuiltinCall newId ⟨.ref C :: rest, kw⟩) Q E ⟨h, g, d, t, os⟩ := by
  have hcont : (Value.ref C :: bm).contains (.type B) = true := by rw [List.contains_cons, hT, F.hasB, Bool.or_true]
  have hstar := F.noStar
  simp only [checkBuiltinCall, F.newKind, F.newSplit, F.newRow]
  repeat (first | refine wpAny_loadPart_at hC ?_ | (refine wpAny_isSubtype_exc hC ?_; rw [hcont]) | refine wpAny_staticBase_exc hC ?_ | refine wpAny_madeBy_exc hC ?_ | simp only [bne_self_eq_false, Bool.false_eq_true, if_false] | wp_step)
  exact hq
end
section
variable {prog : Program} {w : World} {A : Around} {E : Value → Shared → Prop} {R : Result → Shared → Prop} {h : Heap} {g : Array GenState} {d : Drawn} {t : Nat} {os : OsState}
variable {nm q : Str} {C N : Addr} {bs bm bmB : List Value} {hdct : Bool} {sn : List Str} {sub : List Value} {ab : Bool} {col : Option Bool} {dd : Option Addr} {k0 k1 k2 k3 k5 : Option Value} {B newId initId : String} {kw : List (Str × Value)}
theorem new_ownK (F : ExcBaseFacts B newId initId bmB) (hT : ∀ X : String, bm.contains (.type X) = bmB.contains (.type X)) {rest : List Value}
    (hC : h.get? C = some (excClassObj nm q C N bs bm hdct sn sub ab col dd k0 k1 k2 k3 k5 newId))
    (hq : R (.ok (.ret (.ref (h.objs.size + 1)))) ⟨(h.push { cls := .type "tuple", data := .seq rest.toArray }).push
      { cls := .ref C, data := .fields #[.ref h.objs.size, .none, .none, .none, .bool false, .none] }, g, d, t, os⟩) (hrest : rest.length ≤ sizeLine) :
    codeAny (model prog w) A (.builtin newId ⟨.ref C :: rest, kw⟩) R ⟨h, g, d, t, os⟩ := by
  have hends := F.ends
  have hcB : (Value.ref C :: bm).contains (.type B) = true := by rw [List.contains_cons, hT, F.hasB, Bool.or_true]
  have hcA : (Value.ref C :: bm).contains (.type "AttributeError") = false := by rw [List.contains_cons, hT, F.noAttr]; rfl
  have hcN : (Value.ref C :: bm).contains (.type "NameError") = false := by rw [List.contains_cons, hT, F.noName]; rfl
  refine codeAny_builtinAt F.entry ?_
  unfold Builtin.«BaseException.__new__»
  refine wpAt_bind ?_
  show wpAt _ _ _ (stack >>= _) _ _ _
  refine wpAt_bind (wpAt_stack fun p below => wpAt_of_wpAny ?_)
  wp_walk
  refine wpAt_of_wpAny ?_
  rw [F.owner]
  repeat (first | with_reducible refine wpAny_madeHere_exc F.canon hC ?_ | with_reducible refine wpAny_loadPart_at hC ?_ | (with_reducible refine wpAny_isSubtype_exc hC ?_; first | rw [hcB] | rw [hcA] | rw [hcN]) | wp_step)
  show R _ _
  rw [Heap.size_push]
  exact hq
theorem type_call_ownK (F : ExcBaseFacts B newId initId bmB) (hT : ∀ X : String, bm.contains (.type X) = bmB.contains (.type X)) {rest : List Value} {fI : Addr} {Q : Fin → Shared → Prop}
    (hC : h.get? C = some (excClassObj nm q C N bs bm hdct sn sub ab col dd k0 k1 k2 k3 k5 newId))
    (hi : W.Looks (model prog w) h (typeLookup (.ref C) "__init__") (some (.ref fI))) (hb : ∀ self, W.Looks (model prog w) h (bindSpecial (.ref fI) self) (.ref fI, [self])) (hrest : rest.length ≤ sizeLine)
    (hq : codeAny (model prog w) A (.call (.ref fI) ⟨.ref (h.objs.size + 1) :: rest, kw⟩)
      (fun r s' => match r with | .ok (.ret v) => v = .none ∧ Q (.done (.ret (.ref (h.objs.size + 1)))) s' | .ok _ => False | .error e => E e s')
      ⟨(h.push (W.kdv_tup rest)).push (excO C h.objs.size), g, d, t, os⟩) :
    wpAny (model prog w) A (Builtin.«type.__call__» ⟨.ref C :: rest, kw⟩) Q E ⟨h, g, d, t, os⟩ := by
  repeat (first | with_reducible refine wpAny_loadPart_at hC ?_ | with_reducible refine wpAny_madeBy_exc hC ?_ | wp_step)
  refine codeAny_call_builtin_code (Code.quiet_builtin _ F.quiet) (check_new_ownK F hT hC ?_)
  refine new_ownK F hT hC ?_ hrest
  show wpAny _ _ _ _ _ _
  have k : ∀ b o, h.get? b = some o → ((h.push (W.kdv_tup rest)).push (excO C h.objs.size)).get? b = some o := fun b o e => Heap.get?_push_of_some _ (Heap.get?_push_of_some _ e)
  have hC₁ := k _ _ hC
  have hget : ((h.push (W.kdv_tup rest)).push (excO C h.objs.size)).get? (h.objs.size + 1) = some (excO C h.objs.size) := by heap_get
  have hcC : (Value.ref C :: bm).contains (.ref C) = true := by simp
  have i1 := hi.keeps k
  have b1 := (hb (.ref (h.objs.size + 1))).keeps k
  unfold isInstance
  repeat (first | with_reducible refine wpAny_loadPart_at hget ?_ | (with_reducible refine wpAny_isSubtype_exc hC₁ ?_; rw [hcC]) | wp_step)
  show wpAny _ _ (typeLookup (.ref C) _) _ _ _
  refine i1.at ?_
  refine wpAny_holding (wpAny_bind (b1.at ?_))
  refine wpAny_bind (wpAny_call (codeAny_mono hq fun r s' z => ?_))
  rcases r with e | (v | _ | _ | _) <;> first | exact z | exact z.elim | skip
  obtain ⟨rfl, z⟩ := z
  first
    | exact wpAny_pure (wpAny_pure z)
    | (wp_walk; exact z)
theorem call_ownK (F : ExcBaseFacts B newId initId bmB) (hT : ∀ X : String, bm.contains (.type X) = bmB.contains (.type X)) {rest : List Value} {fI : Addr}
    (hC : h.get? C = some (excClassObj nm q C N bs bm hdct sn sub ab col dd k0 k1 k2 k3 k5 newId))
    (hi : W.Looks (model prog w) h (typeLookup (.ref C) "__init__") (some (.ref fI))) (hb : ∀ self, W.Looks (model prog w) h (bindSpecial (.ref fI) self) (.ref fI, [self])) (hrest : rest.length ≤ sizeLine)
    (hq : codeAny (model prog w) (A.under (.builtin "type.__call__" ⟨.ref C :: rest, kw⟩)) (.call (.ref fI) ⟨.ref (h.objs.size + 1) :: rest, kw⟩) (W.InitBack (h.objs.size + 1) R)
      ⟨(h.push (W.kdv_tup rest)).push (excO C h.objs.size), g, d, t, os⟩) :
    codeAny (model prog w) A (.call (.ref C) ⟨rest, kw⟩) R ⟨h, g, d, t, os⟩ := by
  have f1 := tc_lookup
  have f2 := tc_bind (.ref C)
  have hTy : (⟨h, g, d, t, os⟩ : Shared).TypeIs (.ref C) "type" := ⟨_, hC, rfl⟩
  refine codeAny_of_tree ?_
  show wpAny _ _ (callAny (.ref C) _) _ _ _
  repeat (any_goals (first | assumption | with_reducible refine wpAny_loadPart_at hC ?_ | wp_step))
  refine ⟨rfl, ?_⟩
  refine codeAny_call_builtin_at (Code.quiet_builtin _ (by decide +kernel)) entry_typeCall (wpAny_check_type_call_sub hC (type_call_ownK F hT hC hi hb hrest ?_))
  refine codeAny_mono hq fun r s' z => ?_
  rcases r with e | (v | _ | _ | _) <;> exact z
end
end Way

namespace Way
open PySem PySem.Spec PyProof.Rows L2
/-- C(k = v, ..) as a value, C an own exception class with its own __init__ -/
def tMkXK (C : Addr) (m : Nat) (sp : Sp) (gV : List V → List V → List V) (E : XK) (tk : TA) : TE := fun σ H Q => tk σ H fun zs H1 => zs.length = m ∧ ∀ a, H1 a = none → sp (gV [.ref a] zs) (upd H1 a (exo a C none)) (fun v H2 => v = .non ∧ Q (.ref a) H2) E
theorem pe_mkXK0 {X : Cx} {kws : List Keyword} {tk : TA} {p pos : Pos} {CX : CXT} {x : Str} {C fI : Addr} {k : Nat} {fd : FuncData} {ps ks : List Str} {sp : Sp} {E : XK} {g : List Value → List Value → List Value} {gV : List V → List V → List V} (T : OexC X.K C) (iC : PySem.W.findIn X.K (.ref C) "__init__" = some (some (.ref fI))) (tI : PySem.W.typeIn X.K (.ref fI) = some (.type "function"))
    (F1 : FnOk X.prog X.w X.K X.mg X.base CX k fI fd ps sp) (hr : Room (k + 1) X.A) (hb : KBn X.K fd ps 1 ks g gV) (hx : Passes CX X E) (hg : Gl X x) (hm : X.mg x = some (.ref C)) (hkw : PK X kws tk)
    (hall : (backToKw pos (keywordEach kws X.env)).all (·.1.isSome) = true := by rfl) (hks : (backToKw pos (keywordEach kws X.env)).filterMap (·.1) = ks := by rfl) (hdb : (x == ("__debug__" : Str)) = false := by decide)
    (hpl : ((backTo pos (starEach [] X.env)).any (·.1) || (backToKw pos (keywordEach kws X.env)).any (·.1.isNone)) = false := by rfl) :
    PE X (.Call (.Name x p) [] kws pos) (tMkXK C ks.length sp gV E tk) := by
  refine ⟨fun pins s σ H Q I h => ?_⟩
  obtain ⟨nm, q, N, bs, bm, sn, sub, ab, col, dd, k0, k1, k2, k3, k5, hC, hbm⟩ := T.cls
  refine wpAny_Call_Name_kw (ld_glob I hg hm ?_ hdb)
  refine PySem.W.callWith_KW0 (h₀ := X.base) I.ok.mod.kin T.kC hall ?_ hpl
  refine thn (hkw.run pos pins s σ H _ I h) fun ws s1 ⟨zs, H1, I1, rz, l2, q1⟩ => ⟨I1.kIn, ?_⟩
  rw [hks]
  obtain ⟨hp, gg, dr, tk', os⟩ := s1
  have hsz : hp.objs.size ≤ hp.objs.size + 1 := Nat.le_succ _
  have hn : H1 (hp.objs.size + 1) = none := I1.hok.fresh hsz
  have hq := q1 (hp.objs.size + 1) hn
  have kk : ∀ b o, hp.get? b = some o → ((hp.push (PySem.W.kdv_tup [])).push (PySem.HandSPX.excO C hp.objs.size)).get? b = some o := fun b o e => Heap.get?_push_of_some _ (Heap.get?_push_of_some _ e)
  have hget : ((hp.push (PySem.W.kdv_tup [])).push (PySem.HandSPX.excO C hp.objs.size)).get? (hp.objs.size + 1) = some (PySem.HandSPX.excO C hp.objs.size) := by heap_get
  have I2 : Inv X pins σ (upd H1 (hp.objs.size + 1) (exo (hp.objs.size + 1) C none)) ⟨(hp.push (PySem.W.kdv_tup [])).push (PySem.HandSPX.excO C hp.objs.size), gg, dr, tk', os⟩ :=
    I1.laid (t' := tk') (a := hp.objs.size + 1) (o := exo (hp.objs.size + 1) C none) (h' := (hp.push (PySem.W.kdv_tup [])).push (PySem.HandSPX.excO C hp.objs.size)) kk hsz (exo_ok hget)
  have r1 : Vals [V.ref (hp.objs.size + 1)] [Value.ref (hp.objs.size + 1)] := .cons rfl .nil
  have r2 := hb.rel r1 rz
  refine wpAny_call (call_ownK F.excBase_ValueError (fun Y => PySem.HandSPX.refsVE_contains Y bm hbm) (I1.kIn _ _ hC) (PySem.W.looks_findIn I1.kIn iC) (fun self => PySem.W.bind_fn I1.kIn self tI) (rest := []) (by show 0 ≤ sizeLine; exact Nat.zero_le _)
    (codeAny_mono (F1.run _ X.stack _ _ ⟨[Value.ref (hp.objs.size + 1)], ks.zip ws⟩ (g [Value.ref (hp.objs.size + 1)] ws) _ _ E (hr.make C [] (ks.zip ws)) (I2.env0.make C [] (ks.zip ws)) (hb.to _ [Value.ref (hp.objs.size + 1)] ws I2.kIn rfl (rz.length.symm.trans l2)) r2 hq) fun r s' hq' => ?_))
  cases r with
  | error er => exact hx pins σ _ _ er s' I2 hq'
  | ok fl =>
    cases fl with
    | ret u =>
      obtain ⟨v, H', I3, rv, ev, q3⟩ := I2.after hq'
      subst ev
      exact ⟨rv, ⟨V.ref (hp.objs.size + 1), H', I3, rfl, q3⟩⟩
    | next => exact False.elim hq'
    | brk => exact False.elim hq'
    | cont => exact False.elim hq'
end Way

/-! own exception classes over one own root class over ValueError -/
namespace Way
open PySem PySem.Spec PyProof.Rows L2
abbrev veT : List Value := [.type "ValueError", .type "Exception", .type "BaseException", .type "object"]
/-- the class object: its name, its mro behind itself, its namespace -/
def XLk (K : PySem.W.Frag) (nm : Str) (C N : Addr) (bm : List Value) : Prop :=
  ∃ q bs sn sub ab col dd k0 k1 k2 k3 k5, K.lookup C = some (excClassObj nm q C N bs bm true sn sub ab col dd k0 k1 k2 k3 k5 "ValueError.__new__")
structure XRoot (K : PySem.W.Frag) (W N : Addr) : Prop where
  lk : XLk K "WayError" W N veT
  ini : PySem.W.nsIn K N "__init__" = some none
structure XCls (K : PySem.W.Frag) (nm : Str) (C N W : Addr) : Prop where
  lk : XLk K nm C N (.ref W :: veT)
  sa : PySem.W.findIn K (.ref C) "__setattr__" = some (some (.builtin "object.__setattr__"))
  ga : PySem.W.findIn K (.ref C) "__getattribute__" = some (some (.builtin "BaseException.__getattribute__"))
  gg : PySem.W.findIn K (.ref C) "__getattr__" = some none
  ha : PySem.W.findIn K (.ref C) "__class__" = some (some (.builtin "object.__class__"))
  kC : PySem.W.keepIn K (.ref C) = true
structure XAll (K : PySem.W.Frag) : Prop where
  hn : PySem.W.specialIn K (.builtin "object.__class__") "__get__" = some (some (.builtin "getset_descriptor.__get__"))
  ht : PySem.W.takesIn K (.builtin "object.__class__") = some true
  opq : PySem.W.nsIn K cStatics "thirdparty.any" = some none
section
variable {K : PySem.W.Frag} {nm nm' : Str} {C D N N' W NW : Addr} {bm bm' : List Value}
theorem XLk.cls (h : XLk K nm C N bm) : ∃ cd, PySem.W.clsIn K C = some cd ∧ cd.mro = .ref C :: bm ∧ cd.hasDict = true ∧ cd.name = nm ∧ cd.ns = N := by
  obtain ⟨q, bs, sn, sub, ab, col, dd, k0, k1, k2, k3, k5, e⟩ := h
  refine ⟨{ name := nm, bases := bs, mro := .ref C :: bm, ns := N, qualname := q, hasDict := true, slotNames := sn, subclasses := sub, abstract := ab, collection := col, hasDel := false }, ?_, rfl, rfl, rfl, rfl⟩
  unfold PySem.W.clsIn
  rw [e]
theorem XLk.ty (h : XLk K nm C N bm) : PySem.W.typeIn K (.ref C) = some (.type "type") := by
  obtain ⟨q, bs, sn, sub, ab, col, dd, k0, k1, k2, k3, k5, e⟩ := h
  show Option.map (fun x => x.cls) (K.lookup C) = _
  rw [e]
  rfl
theorem XLk.sub (h : XLk K nm C N bm) (v : Value) : PySem.W.subIn K (.ref C) v = some ((Value.ref C :: bm).contains v) := by
  obtain ⟨cd, e, m, _⟩ := h.cls
  show PySem.W.mroIn K C v = _
  unfold PySem.W.mroIn
  rw [e, Option.bind_some, m]
  rfl
theorem XLk.ne (h : XLk K nm C N bm) (h' : XLk K nm' D N' bm') (e : nm ≠ nm') : C ≠ D := fun z => by
  obtain ⟨cd, a, _, _, b, _⟩ := h.cls
  obtain ⟨cd', a', _, _, b', _⟩ := h'.cls
  subst z
  rw [a] at a'
  cases a'
  exact e (b.symm.trans b')
theorem XLk.hd (h : XLk K nm C N bm) : PySem.W.hasDictIn K C = true := by
  obtain ⟨cd, e, _, m, _⟩ := h.cls
  unfold PySem.W.hasDictIn
  rw [e]
  exact m
theorem XLk.kit (h : XLk K nm C N bm) (h' : XLk K nm' D N' bm') : PySem.W.kitCls K (.ref C) (.ref D) = some ((Value.ref C :: bm).contains (.ref D)) := by
  obtain ⟨cd, e, _⟩ := h'.cls
  show (if ((PySem.W.clsIn K D).isSome && PySem.W.typeIn K (.ref D) == some (.type "type")) = true then PySem.W.subIn K (.ref C) (.ref D) else none) = _
  rw [e, h'.ty, h.sub]
  rfl
theorem XLk.one (h : XLk K nm C N bm) (h' : XLk K nm' D N' bm') : PySem.W.kitOne K (.ref C) (.ref D) = some ((Value.ref C :: bm).contains (.ref D)) := by
  unfold PySem.W.kitOne
  split
  · rename_i z
    have z' := beq_iff_eq.mp z
    rw [← z']
    simp
  · exact h.kit h'
theorem XLk.oneT (h : XLk K nm C N bm) {T : String} (m : PySem.W.kitMeta T = true) : PySem.W.kitOne K (.ref C) (.type T) = some ((Value.ref C :: bm).contains (.type T)) := by
  unfold PySem.W.kitOne
  rw [if_neg (by intro z; cases beq_iff_eq.mp z)]
  show (if PySem.W.kitMeta T = true then PySem.W.subIn K (.ref C) (.type T) else none) = _
  rw [if_pos m, h.sub]
theorem veT_sub {T : String} (h : veT.contains (.type T) = true) : (Value.ref C :: .ref W :: veT).contains (.type T) = true := by
  rw [List.contains_cons, List.contains_cons, h]; simp
theorem XLk.exm (h : XLk K nm C N bm) (h' : XLk K nm' D N' bm') (b : (Value.ref D :: bm').contains (.type "BaseException") = true) : PySem.W.exmOne K (.ref C) (.ref D) = some ((Value.ref C :: bm).contains (.ref D)) := by
  unfold PySem.W.exmOne
  rw [h'.sub, b, if_pos (by rfl), h.kit h']
theorem XCls.exmSelf (h : XCls K nm C N W) : PySem.W.exmOne K (.ref C) (.ref C) = some true := by
  rw [h.lk.exm h.lk (veT_sub (by decide +kernel))]
  simp
theorem XCls.exmRoot (h : XCls K nm C N W) (r : XRoot K W NW) : PySem.W.exmOne K (.ref C) (.ref W) = some true := by
  rw [h.lk.exm r.lk (by rw [List.contains_cons, show veT.contains (.type "BaseException") = true by decide +kernel]; simp)]
  simp
theorem XCls.exmOther (h : XCls K nm C N W) (h' : XCls K nm' D N' W) (r : XRoot K W NW) (e : nm ≠ nm') (e' : nm' ≠ "WayError") : PySem.W.exmOne K (.ref C) (.ref D) = some false := by
  rw [h.lk.exm h'.lk (veT_sub (by decide +kernel))]
  have n1 := h.lk.ne h'.lk e
  have n2 := h'.lk.ne r.lk e'
  simp [Ne.symm n1, n2]
theorem XCls.kitRoot (h : XCls K nm C N W) (r : XRoot K W NW) : PySem.W.kitOne K (.ref C) (.ref W) = some true := by
  rw [h.lk.one r.lk]; simp
theorem XCls.kitVE (h : XCls K nm C N W) : PySem.W.kitOne K (.ref C) (.type "ValueError") = some true := by
  rw [h.lk.oneT (by decide +kernel), veT_sub (by decide +kernel)]
theorem XCls.kitSelf (h : XCls K nm C N W) : PySem.W.kitOne K (.ref C) (.ref C) = some true := by
  rw [h.lk.one h.lk]; simp
theorem XCls.kitOther (h : XCls K nm C N W) (h' : XCls K nm' D N' W) (r : XRoot K W NW) (e : nm ≠ nm') (e' : nm' ≠ "WayError") : PySem.W.kitOne K (.ref C) (.ref D) = some false := by
  rw [h.lk.one h'.lk]
  have n1 := h.lk.ne h'.lk e
  have n2 := h'.lk.ne r.lk e'
  simp [Ne.symm n1, n2]
theorem XCls.oex (h : XCls K nm C N W) : OexC K C := by
  refine ⟨?_, h.sa, (h.lk.sub _).trans (by rw [veT_sub (by decide +kernel)]), h.lk.ty, h.kC⟩
  obtain ⟨q, bs, sn, sub, ab, col, dd, k0, k1, k2, k3, k5, e⟩ := h.lk
  exact ⟨_, _, _, _, _, _, _, _, _, _, _, _, _, _, _, e, rfl⟩
theorem XCls.xf (h : XCls K nm C N W) : XfC K C := ⟨h.ga, h.gg, (h.lk.sub _).trans (by rw [veT_sub (by decide +kernel)]), h.lk.hd⟩
theorem XCls.ex (h : XCls K nm C N W) (a : XAll K) : ExcC K C :=
  ⟨h.ga, h.gg, (h.lk.sub _).trans (by rw [veT_sub (by decide +kernel)]), h.lk.hd, h.ha, a.hn, a.ht, (h.lk.sub _).trans (by rw [veT_sub (by decide +kernel)])⟩
theorem XCls.sup (h : XCls K nm C N W) (r : XRoot K W NW) : PySem.W.ks_superIn K C C "__init__" = some (some (.builtin "ValueError.__init__")) := by
  obtain ⟨cd, e, m, _⟩ := h.lk.cls
  obtain ⟨cw, ew, mw, _, _, nw⟩ := r.lk.cls
  have e1 : ((Value.ref C :: Value.ref W :: veT).dropWhile (· != .ref C)).drop 1 = Value.ref W :: veT := by simp [List.dropWhile_cons]
  unfold PySem.W.ks_superIn
  rw [e, Option.bind_some, m, e1]
  have e2 : PySem.W.ownIn K "__init__" (.ref W) = some none := by
    have q := r.ini
    rw [← nw] at q
    unfold PySem.W.clsIn at ew
    split at ew
    · rename_i z
      cases ew
      show (match K.lookup W with | some ⟨_, _, .cls cd, _⟩ => PySem.W.nsIn K cd.ns "__init__" | _ => none) = _
      rw [z]
      exact q
    · cases ew
  show (match PySem.W.ownIn K "__init__" (.ref W) with | some (some v) => some (some v) | some none => PySem.W.alongIn K "__init__" veT | none => none) = _
  rw [e2]
  kernel_rfl
theorem XCls.supFn {prog : Program} {name qual : Str} {st : Stmt} {f c cc : Addr} {fd : FuncData} (h : XCls K nm C N W) (r : XRoot K W NW) (a : XAll K)
    (ex : ∃ (oc kV doc pm ct : Value) (od an : Option Addr) (osl : Array (Option Value)), fd = PySem.W.fnX name qual (defArgs st) (defBody st) (defScope st) [("__class__", cc)] .none kV doc pm an (.ref c) ct ∧ K.lookup f = some ⟨oc, od, .func fd, osl⟩)
    (cd : PySem.W.codeIn K (.ref c) qual = true)
    (file : ∃ (ccl : Value) (cdd : Option Addr) (vs : Array Value) (ccs : Array (Option Value)) (file : Str) (tf : Tok), K.lookup c = some ⟨ccl, cdd, .fields vs, ccs⟩ ∧ vs[2]? = some (.str file tf) ∧ ((prog.main.file : Str) == file) = true)
    (cell : ∃ (cl : Value) (cld : Option Addr) (csl : Array (Option Value)), K.lookup cc = some ⟨cl, cld, .cell (some (.ref C)), csl⟩) (top : (prog.main.scope.names.lookup ("super" : Str)).isSome = false) : SupFn K prog name qual st f fd C c cc :=
  ⟨ex, cd, file, cell, (h.lk.sub _).trans (by simp), a.opq, h.sup r, (h.lk.sub _).trans (by rw [veT_sub (by decide +kernel)]), top⟩
end
/-! inits that keep what they are given -/
def spX1 (C : Addr) (f : Str) : Sp := fun vs H Q _ => ∃ a v, vs = [.ref a, v] ∧ H a = some (exo a C none) ∧ ∀ dx, H dx = none → dx ≠ a → Q .non (upd (upd H dx (exd dx [(f, v)])) a (exo a C (some dx)))
def spX2 (C : Addr) (f g : Str) : Sp := fun vs H Q _ => ∃ a v w, vs = [.ref a, v, w] ∧ H a = some (exo a C none) ∧ ∀ dx, H dx = none → dx ≠ a → Q .non (upd (upd (upd H dx (exd dx [(f, v)])) a (exo a C (some dx))) dx (exd dx [(g, w), (f, v)]))
section
variable {K : PySem.W.Frag} {C : Addr} {f g : Str} {H : Hp} {a : Addr} {v w : V} {Q : VK} {z : Option V}
theorem init1 (T : OexC K C) (hno : PySem.W.findIn K (.ref C) f = some none) (ha : H a = some (exo a C none)) (k : ∀ dx, H dx = none → dx ≠ a → Q .non (upd (upd H dx (exd dx [(f, v)])) a (exo a C (some dx)))) {ct bk : L2.St → Hp → Prop} :
    tOst K f (tVar 0) (tVar 1) { nx := fun _ H' => Q .non H', rt := Q, bk := bk, ct := ct } [some (.ref a), some v, z] H :=
  ⟨_, rfl, _, rfl, a, C, rfl, T, hno, .inl ⟨ha, k⟩⟩
end
end Way

/-! an own __iter__ that says: return iter(self.f), f a tuple -/
namespace Way
open PySem PySem.Spec PyProof.Rows L2
abbrev titObj (t : Addr) (i : Nat) : Obj := { cls := .type "tuple_iterator", data := .fields #[.ref t, .int i 0] }
theorem call_iterT {prog : Program} {w : World} {A : Around} {E : Value → Shared → Prop} {s : Shared} {t : Addr} {items : Array Value} {Q : Value → Shared → Prop} (ht : s.heap.IsTuple t items) (h : Q (.ref s.heap.objs.size) { s with heap := s.heap.push (titObj t 0) }) :
    wpAny (model prog w) A (call (.builtin "iter") [.ref t]) Q E s := by
  refine Calls.call_function_entry (by decide +kernel) (by decide +kernel) PySem.W.kdk_entry_iter (PySem.W.kdk_args_iter _) ?_
  unfold Builtin.«iter»
  refine wpAny_bind (m := someArgs "iter" 1 2 _) (wpAny_of_eq (a := [Value.ref t]) (by first | rfl | kernel_rfl!) ?_)
  show wpAny _ _ (pyIter (.ref t) >>= _) _ _ _
  refine wpAny_bind (wpAny_pyIter_tuple ht ?_)
  exact wpAny_pure ⟨_, rfl, h⟩
/-- what the def at f promises: a new iterator over the tuple -/
def ItFn (P : Program) (w : World) (K : PySem.W.Frag) (mg : Str → Option Value) (base : Heap) (k : Nat) (f C : Addr) (fld : Str) : Prop :=
  ∀ (A : Around) (outer : List Env) (s : Shared) (H : Hp) (a dx t : Addr) (fs : List (Str × V)) (xs : List V), Room k A → Env0 P w K mg base A outer s H → H a = some (.ins C dx fs) → fs.lookup fld = some (.ref t) → SqT K H t xs →
    codeAny (model P w) A (.call (.ref f) ⟨[.ref a], []⟩) (fun r s' => ∃ q, r = .ok (.ret (.ref q)) ∧ CE outer P w H s (fun _ H' => H' = H) (.ref q) s' ∧ s.heap.objs.size ≤ q ∧ s'.heap.get? q = some (titObj t 0)) s
theorem itFn_of {P : Program} {w : World} {K : PySem.W.Frag} {mg : Str → Option Value} {base : Heap} {k : Nat} {f C : Addr} {x qual fld : Str} {st : Stmt} {fd : FuncData} {N : List Str} {p1 p2 p3 p4 p5 : Pos} (F : Fun K x qual st f fd) (S : FnScope N ["self"] (defScope st)) (hN : N[0]? = some ("self" : Str))
    (hb : defBody st = [.Return (some (.Call (.Name "iter" p1) [.Attribute (.Name "self" p2) fld p3] [] p4)) p5]) (hk : (defScope st).names.lookup ("iter" : Str) = some .globalImplicit) (hm : mg "iter" = none) (c : Cls K C) (n : NoAttr K C fld) (B : Binds K fd ["self"] []) : ItFn P w K mg base (k + 1) f C fld := by
  intro A outer s H a dx t fs xs hr e0 ha l ht
  obtain ⟨oc, od, kV, doc, pm, an, cdv, ct, osl, rfl, lk, hcd⟩ := F.ex
  have KX : K.In s.heap := e0.mod.kin.keeps fun b o e => (e0.bs b o e).1
  have lim : s.heap.NoLimit := e0.mod.nolimit.keeps fun b o e => (e0.bs b o e).1
  have hkind : ∀ y ∈ (["self"] : List Str).zip [Value.ref a], (defScope st).names.lookup y.1 = some .local ∨ ((defScope st).names.lookup y.1 = some .cell ∧ ((cellsFrom (s.heap.objs.size + 1) (defScope st).names []).lookup y.1).isSome = true) := fun ⟨n, v⟩ hy => by
    rcases S.par n (List.of_mem_zip hy).1 with q | q
    · exact .inl q
    · exact .inr ⟨q, PySem.W.cellsFrom_some _ _ _ (.inl q)⟩
  refine codeAny_call_function hr.depth (KX _ _ lk) rfl S.co S.gen rfl (PySem.W.codeRec_of KX hcd) ((B s [.ref a] KX rfl) _ _ _ _ ?_)
  refine wpAny_newFunctionEnv_cells S.kind hkind fun env he s1 x => ?_
  subst he
  refine ⟨lim.keeps x.toInCall.keep, codeAny_func ?_⟩
  have I0 : Inv (cxOf CX0 P w K mg base N qual (defScope st) f cdv A outer s H (fun _ _ _ => False)) [] (start N [.ref a]) H s1 := inv_start (vs := [.ref a]) (us := [.ref a]) S hr.hd e0 rfl (.cons rfl .nil) x
  have I : Inv (cxOf CX0 P w K mg base N qual (defScope st) f cdv A outer s H (fun _ _ _ => False)).nox [] (start N [.ref a]) H s1 := I0.wish _
  have hs0 : (start N [V.ref a])[0]? = some (some (.ref a)) := by
    cases N with
    | nil => cases hN
    | cons y ys => rfl
  have pself : PE (cxOf CX0 P w K mg base N qual (defScope st) f cdv A outer s H (fun _ _ _ => False)).nox (.Name "self" p2) (tVar 0) := pe_var (i := 0) hN ((S.par "self" (List.Mem.head _)).elim (fun z => .inl z) (fun z => .inr (.inl z)))
  have pf := pe_fld (pos := p3) (f := fld) pself rfl
  show wpAny (model P w) (cxOf CX0 P w K mg base N qual (defScope st) f cdv A outer s H (fun _ _ _ => False)).nox.A (execs (defBody st) (cxOf CX0 P w K mg base N qual (defScope st) f cdv A outer s H (fun _ _ _ => False)).nox.env) _ _ s1
  have hex : execs (defBody st) (cxOf CX0 P w K mg base N qual (defScope st) f cdv A outer s H (fun _ _ _ => False)).nox.env = execs [.Return (some (.Call (.Name "iter" p1) [.Attribute (.Name "self" p2) fld p3] [] p4)) p5] (cxOf CX0 P w K mg base N qual (defScope st) f cdv A outer s H (fun _ _ _ => False)).nox.env := congrArg (fun b => execs b (cxOf CX0 P w K mg base N qual (defScope st) f cdv A outer s H (fun _ _ _ => False)).nox.env) hb
  rw [hex]
  refine wpAny_execs_cons (wpAny_Return_some ?_)
  have hg : Gl (cxOf CX0 P w K mg base N qual (defScope st) f cdv A outer s H (fun _ _ _ => False)).nox "iter" := hk
  refine wpAny_Call_Name_kw (ld_blt I hg hm (by decide +kernel : bootBuiltins "iter" = some (.builtin "iter")) ?_ (by decide) (by decide))
  refine PyProof.Rows.callWith_builtin1 (thnF ((pa_cons pf pa_nil).run p4 [] s1 (start N [.ref a]) H (fun vs H' => vs = [.ref t] ∧ H' = H) I ⟨.ref a, hs0, a, C, dx, fs, .ref t, rfl, ha, c, n, l, rfl, rfl⟩) fun us s2 ⟨vs, H1, I1, r1, e1, e2⟩ => ?_)
  subst e1
  subst e2
  obtain ⟨u, rfl, ru⟩ := vals1 r1
  cases ru
  obtain ⟨its, rv, tp, hz⟩ := I1.tuple ht
  refine call_iterT (show s2.heap.IsTuple t its.toArray from tp) ?_
  have J := I1.kept (t' := s2.toks) (h' := s2.heap.push (titObj t 0)) fun b o e => Heap.get?_push_of_some _ e
  exact ⟨_, rfl, ⟨.ref s2.heap.objs.size, H1, J.os, J.bare, J.base, J.hok, rfl, rfl⟩, I1.sz, Heap.get?_push_size _ rfl⟩
/-- the class has such an __iter__ -/
structure OwnIt (K : PySem.W.Frag) (C f : Addr) : Prop where
  it : PySem.W.findIn K (.ref C) "__iter__" = some (some (.ref f))
  itF : PySem.W.isFn K (.ref f) = true
section
variable {X : Cx} {C f : Addr} {fld : Str} {k : Nat} {A : Around} {pins : List (Addr × Obj)} {σ : L2.St} {H : Hp} {s : Shared}
/-- iter(o) of such an object -/
theorem own_pyIter {E : Value → Shared → Prop} {Q : Value → Shared → Prop} {a dx t : Addr} {fs : List (Str × V)} {xs : List V} (c : OwnIt X.K C f) (F : ItFn X.prog X.w X.K X.mg X.base k f C fld) (sb : Sub X k A) (I : Inv X pins σ H s) (ha : H a = some (.ins C dx fs)) (l : fs.lookup fld = some (.ref t)) (ht : SqT X.K H t xs)
    (h : ∀ q s', Inv X pins σ H s' → s.heap.objs.size ≤ q → H q = none → s'.heap.get? q = some (titObj t 0) → Q (.ref q) s') : wpAny (model X.prog X.w) A (pyIter (.ref a)) Q E s := by
  obtain ⟨mA, J, _⟩ := ins_get I.hok ha
  obtain ⟨od, J, _⟩ := J.look
  obtain ⟨m, hF⟩ := I.fr
  refine PySem.W.owit_iter hF I.ok.mod.kin J c.it c.itF ?_
  have e0 : Env0 X.prog X.w X.K X.mg X.base A X.stack s H := by
    have e := I.env0
    exact ⟨by rw [sb.fr]; exact e.frames, e.mod, e.bs, e.bsz, e.funs, e.frf, e.hok, e.bare⟩
  refine wpAny_call (codeAny_mono (F A X.stack s H a dx t fs xs sb.room e0 ha l ht) fun r s' hq => ?_)
  obtain ⟨q, rfl, ce, hz, hg⟩ := hq
  obtain ⟨v, H', I', rv, eH⟩ := I.after ce
  subst eH
  show PySem.W.OwitIt (model X.prog X.w) A Q E (.ref q) s'
  unfold PySem.W.OwitIt
  have hT : s'.TypeIs (.ref q) "tuple_iterator" := ⟨_, hg, rfl⟩
  exact wpAny_specialOf hT PySem.F.slot_tuple_iterator_next.lookup (h q s' I' hz (I.hok.fresh hz) hg)
/-- for x in o -/
def iOwn (K : PySem.W.Frag) (C : Addr) (fld : Str) (te : TE) : TI := fun σ H R => te σ H fun x H1 => ∃ (a dx t : Addr) (fs : List (Str × V)) (xs : List V), x = .ref a ∧ H1 a = some (.ins C dx fs) ∧ fs.lookup fld = some (.ref t) ∧ SqT K H1 t xs ∧ R (Itt K t) H1
theorem pi_own {tg e : Expr} {te : TE} (he : PE X e te) (c : OwnIt X.K C f) (F : ItFn X.prog X.w X.K X.mg X.base k f C fld) (hr : Room k X.A) : PI X tg e (iOwn X.K C fld te) := by
  refine ⟨fun pins s σ H R I h => ?_⟩
  refine thn (he.run pins s σ H _ I h) fun v s1 ⟨x, H1, I1, r1, a, dx, t, fs, xs, ex, ha, l, ht, q⟩ => ?_
  subst ex
  obtain rfl : v = Value.ref a := r1
  refine own_pyIter c F ⟨hr, rfl⟩ I1 ha l ht fun q0 s2 I2 hz hn hg => ?_
  refine ⟨q0, [q0], _, _, H1, rfl, I2, turn_tuple t _, ⟨_, hg, rfl, rfl⟩, fun b hb => ?_, q⟩
  have e : b = q0 := by simpa using hb
  subst e
  exact I1.fpOk hz hn
end
end Way

/-! statements that are never reached; static methods; classes made with starred arguments -/
namespace Way
open PySem PySem.Spec PyProof.Rows L2
section
variable {X : Cx}
theorem ps_never {st : Stmt} : PS X st (fun _ _ _ => False) := ⟨fun _ _ _ _ _ _ h => h.elim⟩
theorem pss_never {st : List Stmt} : PSs X st (fun _ _ _ => False) := ⟨fun _ _ _ _ _ _ h => h.elim⟩
theorem pe_never {e : Expr} : PE X e (fun _ _ _ => False) := ⟨fun _ _ _ _ _ _ h => h.elim⟩
end
/-- C.m is a staticmethod: its record at p, its def at g -/
structure SMet (K : PySem.W.Frag) (C : Addr) (mc : Value) (m : Str) (p g : Addr) : Prop where
  at_ : PySem.W.findCls K (.ref C) mc m = some (.get (.builtin "staticmethod.__get__") (.ref p) .none (.ref C))
  rc : ∃ rest, PySem.W.recIn K p "staticmethod" = some (.ref g :: rest)
  kp : PySem.W.keepIn K (.ref g) = true
section
variable {X : Cx} {CX : CXT} {k : Nat} {C p g f : Addr} {mc : Value} {sp : Sp} {E : XK} {o e : Expr} {es : List Expr} {m x : Str} {pos apos np sp_ : Pos} {ta te : TE} {t : TA} {pl : Sem Bool} {fd : FuncData} {ps : List Str}
def tSM (C : Addr) (sp : Sp) (E : XK) (ta : TE) : TE := fun σ H Q => ta σ H fun x H1 => x = .ref C ∧ sp [] H1 Q E
theorem pe_smeth0 (he : PE X o ta) (r : ClX.CRead X.K C mc) (c : SMet X.K C mc m p g) (F : FnOk X.prog X.w X.K X.mg X.base CX k g fd ps sp) (hr : Room k X.A) (hb : Binds X.K fd ps []) (hx : Passes CX X E)
    (ht : eval (.Call (.Attribute o m apos) [] [] pos) X.env = (do
      let ov ← eval o X.env
      standAt apos.atName
      let (f, first) ← holding [ov] (getMethod ov m pl)
      callWith pos f first (backTo pos (starEach [] X.env)) (backToKw pos (keywordEach [] X.env))) := by rfl) :
    PE X (.Call (.Attribute o m apos) [] [] pos) (tSM C sp E ta) := by
  refine ⟨fun pins s σ H Q I h => ?_⟩
  refine PySem.W.methodCall_KW (pl := pl) (thn (he.run pins s σ H _ I h) fun u s1 ⟨x, H1, I1, rx, ex, q⟩ => ?_) ht
  subst ex
  obtain rfl : u = Value.ref C := rx
  obtain ⟨rest, hp⟩ := c.rc
  refine PySem.W.method_cls I1.kIn r.ga (PySem.W.cls_bind I1.kIn r.rd c.at_ ?_)
  refine wpAny_call (PySem.W.sm_get (s := { s1 with toks := s1.toks + 1 }) I1.kIn hp (PySem.W.handed_on rfl ?_))
  have I2 := I1.tok (s1.toks + 1)
  exact PySem.W.callWith_K0 (first := []) I2.kIn c.kp (run_fn (us := []) (vs := []) (ds := []) (dvs := []) F hr hb .nil hx I2 .nil q)
/-- C(), by a positional promise -/
theorem pe_makeR0 (M : Mk X.K C f) (F : FnR X.prog X.w X.K X.mg X.base CX k f sp) (hr : Room (k + 1) X.A) (hg : Gl X x) (hm : X.mg x = some (.ref C)) (hx : Passes CX X E) (hdb : (x == ("__debug__" : Str)) = false := by decide) :
    PE X (.Call (.Name x np) [] [] pos) (StX.tMakeR C sp E tNil) := by
  refine ⟨fun pins s σ H Q I h => ?_⟩
  refine wpAny_Call_Name_kw (ld_glob I hg hm ?_ hdb)
  exact PySem.W.callWith_K0 I.kIn M.kp (StX.run_makeR (us := []) M F hr hx I .nil h)
/-- C( *y ) -/
def tMakeS (K : PySem.W.Frag) (C : Addr) (sp : Sp) (E : XK) (te : TE) : TE := fun σ H Q => te σ H fun y H1 => ∃ a xs, y = V.ref a ∧ (SqT K H1 a xs ∨ SqL K H1 a xs) ∧ ∀ x dx, H1 x = Option.none → H1 dx = Option.none → dx ≠ x →
  sp (V.ref x :: xs) (upd (upd H1 dx (.own x)) x (.ins C dx [])) (fun v H2 => v = .non ∧ Q (.ref x) H2) E
theorem pe_makeS (M : Mk X.K C f) (F : FnR X.prog X.w X.K X.mg X.base CX k f sp) (hr : Room (k + 1) X.A) (hg : Gl X x) (hm : X.mg x = some (.ref C)) (hx : Passes CX X E) (he : PE X e te) (hd : (x == ("__debug__" : Str)) = false := by decide)
    (hst : starEach [.Starred e sp_] X.env = [(true, eval e X.env)] := by rfl) : PE X (.Call (.Name x np) [.Starred e sp_] [] pos) (tMakeS X.K C sp E te) := by
  refine ⟨fun pins s σ H Q I h => ?_⟩
  refine wpAny_Call_Name_kw (ld_glob I hg hm ?_ hd)
  refine PySem.W.callWith_S (h₀ := X.base) I.ok.mod.kin M.kp (thn (he.run pins s σ H _ I h) fun v s1 ⟨y, H1, I1, ry, a, xs, ey, hxs, q⟩ => ?_) hst
  subst ey
  obtain rfl : v = Value.ref a := ry
  exact StX.star_any I1 hxs fun us s2 I2 rv => ⟨I2.kIn, StX.run_makeR M F hr hx I2 rv q⟩
end
/-- the promise of a def with a star parameter, of what stands behind the top -/
theorem starOk {P : Program} {w : World} {K : PySem.W.Frag} {mg : Str → Option Value} {base : Heap} {x qual pv : Str} {st : Stmt} {f : Addr} {fd : FuncData} {N ps : List Str} {k : Nat} {sp : Sp} (F : Fun K x qual st f fd) (S : FnScope N (ps ++ [pv]) (defScope st))
    (hb : ∀ (kV doc pm : Value) (an : Option Addr) (cdv ct : Value) (us rest : List Value), us.length = ps.length → bindArgs (PySem.W.fnOf x qual (defArgs st) (defBody st) (defScope st) .none kV doc pm an cdv ct) ⟨us ++ rest, []⟩ = (newTuple rest >>= fun t => pure (ps.zip us ++ [(pv, t)])))
    (hbody : ∀ (cdv : Value) (A : Around) (outer : List Env) (s : Shared) (H : Hp) (vs : List V) (Q : VK) (E : XK), Room k (A.deeper (envOfC qual (defScope st) s.heap.objs.size f cdv)) → sp vs H Q E →
      ∃ t, PSs (cxOf CX0 P w K mg base N qual (defScope st) f cdv A outer s H E).nox (defBody st) t ∧ t { nx := fun _ H' => Q .non H', rt := Q } (start N vs) H) :
    FnR P w K mg base CX0 (k + 1) f (fun vs H Q E => ∃ ws rest, vs = ws ++ rest ∧ ws.length = ps.length ∧ rest.length ≤ sizeLine ∧ ∀ p, H p = Option.none → sp (ws ++ [V.ref p]) (upd H p (.tup rest)) Q E) := by
  obtain ⟨oc, od, kV, doc, pm, an, cdv, ct, osl, rfl, lk, hcd⟩ := F.ex
  exact StX.fn_star lk hcd S StX.cxUp_none (hb kV doc pm an cdv ct) fun A outer s H vs Q E hr hsp => let ⟨t, h1, h2⟩ := hbody cdv A outer s H vs Q E hr hsp; ⟨t, h1.nox, h2⟩
end Way

/-! rules with K apart, for the blocks of comprehensions; == of data inside a builtin; what comprehensions make -/
namespace Way
open PySem PySem.Spec PyProof.Rows L2 Evl
section
variable {X : Cx} {n : Nat} {D D' : EqvB}
theorem RcB.imp (h : RcB X n D') (i : ∀ x y H b, D x y H b → D' x y H b) : RcB X n D := fun A pins s σ H x y u v b sb I rx ry d => h A pins s σ H x y u v b sb I rx ry (i _ _ _ _ d)
/-- two things of data -/
def DDat (K : PySem.W.Frag) : EqvB := fun x y H b => ∃ (a c : Addr) (d e : PyData), x = .ref a ∧ y = .ref c ∧ (∀ H1, Ext H H1 → Dp K H1 x d) ∧ (∀ H1, Ext H H1 → Dp K H1 y e) ∧ SeqAt.shaped d = true ∧ SeqAt.shaped e = true ∧ b = PyData.eqv d e ∧ (a = c → b = true)
theorem mon_dat {K : PySem.W.Frag} : MonB (DDat K) := fun x y H H' b ex ⟨a, c, d, e, h1, h2, h3, h4, h5⟩ => ⟨a, c, d, e, h1, h2, fun H1 e1 => h3 H1 fun a o q => e1 a o (ex a o q), fun H1 e1 => h4 H1 fun a o q => e1 a o (ex a o q), h5⟩
theorem rcB_dat : RcB X n (DDat X.K) := by
  intro A pins s σ H x y u v b sb I rx ry d
  obtain ⟨a, c, d, e, rfl, rfl, h3, h4, s1, s2, rfl, _⟩ := d
  obtain ⟨as, r1⟩ := Dp.reads I d _ u (h3 H fun _ _ q => q) rx
  obtain ⟨bs, r2⟩ := Dp.reads I e _ v (h4 H fun _ _ q => q) ry
  exact SeqAt.compareEq_shaped r1 r2 s1 s2 sb.room.units ⟨rfl, H, I, fun _ _ q => q⟩
theorem eqB_dat : EqB X n (DDat X.K) := rcB_dat.eqB fun x y H b ⟨a, c, d, e, h1, h2, _, _, _, _, _, h⟩ => ⟨a, c, h1, h2, h⟩
theorem kk_inD {K : PySem.W.Frag} (hr : Room 1 X.A) (h : X.K = K := by rfl) : OpR X (compareOp .In) (rInB (DDat K) false) := h ▸ op_inB mon_dat eqB_dat hr
theorem kk_notInD {K : PySem.W.Frag} (hr : Room 1 X.A) (h : X.K = K := by rfl) : OpR X (compareOp .NotIn) (rInB (DDat K) true) := h ▸ op_notInB mon_dat eqB_dat hr
theorem kk_fld {K : PySem.W.Frag} {e : Expr} {f : Str} {pos : Pos} {ta : TE} (he : PE X e ta) (hb : attributeBase e f X.env (eval e X.env) = eval e X.env) (h : X.K = K := by rfl) : PE X (.Attribute e f pos) (tFld K ta f) := h ▸ pe_fld he hb
theorem kk_cval {K : PySem.W.Frag} {e : Expr} {f : Str} {pos : Pos} {ta : TE} (he : PE X e ta) (hb : attributeBase e f X.env (eval e X.env) = eval e X.env := by rfl) (h : X.K = K := by rfl) : PE X (.Attribute e f pos) (ClX.tCVal K ta f) := h ▸ ClX.pe_cval he hb
theorem kk_piL {K : PySem.W.Frag} {tg l : Expr} {tl : TE} (hl : PE X l tl) (h : X.K = K := by rfl) : PI X tg l (iList K tl) := h ▸ pi_list hl
theorem kk_piT {K : PySem.W.Frag} {tg l : Expr} {tl : TE} (hl : PE X l tl) (h : X.K = K := by rfl) : PI X tg l (iTup K tl) := h ▸ pi_tup hl
theorem kk_truth {K : PySem.W.Frag} {a : Expr} {ta : TE} (ha : PE X a ta) (he : ∀ whole, isTrue a X.env whole = (do let v ← whole; standAt a.pos; holding [v] (truthy v)) := by intro _; rfl) (h : X.K = K := by rfl) :
    PT X a (fun σ H Q => ta σ H fun x H' => ∃ k, TruV K x H' k ∧ Q k H') := h ▸ pt_truth ha he
theorem kk_makeS {K : PySem.W.Frag} {CX : CXT} {k : Nat} {f C : Addr} {sp : Sp} {E : XK} {x : Str} {e : Expr} {te : TE} {np sp_ pos : Pos} (M : Mk X.K C f) (F : FnR X.prog X.w X.K X.mg X.base CX k f sp) (hr : Room (k + 1) X.A) (hg : Gl X x) (hm : X.mg x = some (.ref C)) (hx : Passes CX X E) (he : PE X e te) (hd : (x == ("__debug__" : Str)) = false := by decide)
    (hst : starEach [.Starred e sp_] X.env = [(true, eval e X.env)] := by rfl) (h : X.K = K := by rfl) : PE X (.Call (.Name x np) [.Starred e sp_] [] pos) (tMakeS K C sp E te) := h ▸ pe_makeS M F hr hg hm hx he hd hst
theorem kk_neB {K : PySem.W.Frag} {CX : CXT} {f C : Addr} {fd : FuncData} {ps : List Str} {E : XK} {R : Addr → V → Hp → Bool → Prop} (F : FnOk X.prog X.w X.K X.mg X.base CX n f fd ps (spEqB R)) (hm : PySem.W.mroIn X.K C (.type "object") = some true)
    (hs : PySem.W.findIn X.K (.ref C) "__eq__" = some (some (.ref f))) (hne : PySem.W.findIn X.K (.ref C) "__ne__" = some (some (.builtin "object.__ne__"))) (hf : PySem.W.isFn X.K (.ref f) = true) (hb : Binds X.K fd ps []) (hx : Passes CX X E) (hr : Room (n + 1) X.A) (h : X.K = K := by rfl) :
    OpR X (compareOp .NotEq) (rNeB (DOwn K C R)) := h ▸ op_neB F hm hs hne hf hb hx hr
end
/-- what the written part says of a class whose instances are asked for their type, compared, joined -/
structure InsC (K : PySem.W.Frag) (C : Addr) : Prop where
  ha : PySem.W.findIn K (.ref C) "__class__" = some (some (.builtin "object.__class__"))
  hn : PySem.W.specialIn K (.builtin "object.__class__") "__get__" = some (some (.builtin "getset_descriptor.__get__"))
  tk : PySem.W.takesIn K (.builtin "object.__class__") = some true
  mo : PySem.W.mroIn K C (.type "object") = some true
  ne : PySem.W.findIn K (.ref C) "__ne__" = some (some (.builtin "object.__ne__"))
  sf : PySem.W.selfFirst K C = true
  tt : PySem.W.typeIn K (.ref C) = some (.type "type")
theorem kit_no {K : PySem.W.Frag} {C : Addr} {T : String} {l : List Value} (h : InsC K C) (c : Cls K C) (hl : fastBuiltinMro T = some l) (hn : ∀ a, l.contains (.ref a) = false) : PySem.W.kitOne K (.type T) (.ref C) = some false := by
  have hc : (PySem.W.clsIn K C).isSome = true := by
    obtain ⟨cd, hc, _⟩ := PySem.W.any_some c.hd
    rw [hc]; rfl
  unfold PySem.W.kitOne
  rw [if_neg (by intro z; cases beq_iff_eq.mp z)]
  show (if ((PySem.W.clsIn K C).isSome && PySem.W.typeIn K (.ref C) == some (.type "type")) = true then PySem.W.subIn K (.type T) (.ref C) else none) = _
  rw [hc, h.tt, if_pos (by rfl)]
  show (fastBuiltinMro T).map (·.contains (.ref C)) = some false
  rw [hl, Option.map_some, hn]
theorem notFirst_no {K : PySem.W.Frag} {C : Addr} {T : String} {l : List Value} (hl : fastBuiltinMro T = some l) (hn : ∀ a, l.contains (.ref a) = false) : PySem.W.notFirst K C (.type T) = true := by
  unfold PySem.W.notFirst
  have : PySem.W.subIn K (.type T) (.ref C) = some false := by
    show (fastBuiltinMro T).map (·.contains (.ref C)) = some false
    rw [hl, Option.map_some, hn]
  rw [this]
  simp
theorem InsC.ty {K : PySem.W.Frag} {C : Addr} (h : InsC K C) (c : Cls K C) {H : Hp} {a dx : Addr} {fs : List (Str × V)} (e : H a = some (.ins C dx fs)) : TyX K H (.ref a) (.ref C) := .base (.ins e c h.ha h.hn h.tk h.mo)
theorem notFirst_self {K : PySem.W.Frag} {C : Addr} : PySem.W.notFirst K C (.ref C) = true := by
  unfold PySem.W.notFirst
  simp
theorem kit_self {K : PySem.W.Frag} {C : Addr} : PySem.W.kitOne K (.ref C) (.ref C) = some true := by
  unfold PySem.W.kitOne
  simp
/-! what is evaluated holds P -/
def EvX (te : TE) (σ : L2.St) (H : Hp) (P : V → Hp → Prop) : Prop := ∀ H1, Ex H H1 → ∀ Q : VK, (∀ v H2, Ex H1 H2 → P v H2 → Q v H2) → te σ H1 Q
/-- the same, of a new object -/
def EvN (te : TE) (σ : L2.St) (H : Hp) (P : V → Hp → Prop) : Prop := ∀ H1, Ex H H1 → ∀ Q : VK, (∀ p H2, H1 p = none → Ex H1 H2 → P (.ref p) H2 → Q (.ref p) H2) → te σ H1 Q
section
variable {K : PySem.W.Frag} {σ : L2.St} {H : Hp} {te tb tl : TE} {ta tr : TA} {D : Ends} {tz : TS}
theorem EvN.x {P : V → Hp → Prop} (h : EvN te σ H P) : EvX te σ H P := fun H1 e Q q => h H1 e Q fun p H2 _ e2 z => q _ H2 e2 z
theorem EvN.to {P R : V → Hp → Prop} (h : EvN te σ H P) (r : ∀ v H1, Ex H H1 → P v H1 → R v H1) : EvN te σ H R := fun H1 e Q q => h H1 e Q fun p H2 hn e2 z => q p H2 hn e2 (r _ H2 (e.trans e2) z)
theorem n_asg {P : V → Hp → Prop} {i : Nat} (h : EvN te σ H P) (k : ∀ p H1, H p = none → Ex H H1 → P (.ref p) H1 → tz D (σ.set i (some (.ref p))) H1) : tSeq (tAsg te (gName i)) tz D σ H := h H (Ex.refl H) _ fun p H1 hn e z => k p H1 hn e z
theorem n_ret {P : V → Hp → Prop} (h : EvN te σ H P) (k : ∀ p H1, H p = none → Ex H H1 → P (.ref p) H1 → D.rt (.ref p) H1) : tRet te D σ H := h H (Ex.refl H) _ fun p H1 hn e z => k p H1 hn e z
theorem EvX.of {v : V} {P : V → Hp → Prop} (h : Ev te σ H v) (p : ∀ H1, Ex H H1 → P v H1) : EvX te σ H P := fun H1 e Q q => h H1 e Q fun H2 e2 => q v H2 e2 (p H2 (e.trans e2))
theorem EvX.to {P R : V → Hp → Prop} (h : EvX te σ H P) (r : ∀ v H1, Ex H H1 → P v H1 → R v H1) : EvX te σ H R := fun H1 e Q q => h H1 e Q fun v H2 e2 p => q v H2 e2 (r v H2 (e.trans e2) p)
theorem x_asg {P : V → Hp → Prop} {i : Nat} (h : EvX te σ H P) (k : ∀ v H1, Ex H H1 → P v H1 → tz D (σ.set i (some v)) H1) : tSeq (tAsg te (gName i)) tz D σ H := h H (Ex.refl H) _ fun v H1 e p => k v H1 e p
theorem x_ret {P : V → Hp → Prop} (h : EvX te σ H P) (k : ∀ v H1, Ex H H1 → P v H1 → D.rt v H1) : tRet te D σ H := h H (Ex.refl H) _ fun v H1 e p => k v H1 e p
theorem q_any {i : Nat} (h : te σ H fun v H1 => tz D (σ.set i (some v)) H1) : tSeq (tAsg te (gName i)) tz D σ H := h
/-- facts that outlive the filling of a list -/
def Sits (P : Nat → V → Hp → Prop) : Prop := ∀ i v H H' D acc, H D = some (.lst acc) → Kp D H H' → P i v H → P i v H'
/-- what a comprehension that makes objects leaves -/
def Made (P : Nat → V → Hp → Prop) (n : Nat) (v : V) (H : Hp) : Prop := ∃ p ys, v = .ref p ∧ H p = some (.lst ys) ∧ ys.length = n ∧ ∀ i y, ys[i]? = some y → P i y H
def Cx2 (H1 : Hp) (P : Nat → V → Hp → Prop) (D : Addr) (i : Nat) (H' : Hp) : Prop := H1 D = none ∧ Ex H1 H' ∧ ∃ ys, H' D = some (.lst ys) ∧ ys.length = i ∧ ∀ j y, ys[j]? = some y → P j y H'
theorem cx2_turn {H1 H' : Hp} {P : Nat → V → Hp → Prop} {Dl : Addr} {i : Nat} {σ' : L2.St} (hs : Sits P) (c : Cx2 H1 P Dl i H') (hi : i < 100000) (he : EvX te σ' H1 (P i)) :
    te σ' H' fun y H4 => ∃ acc, H4 Dl = some (.lst acc) ∧ acc.length < sizeLine ∧ Cx2 H1 P Dl (i + 1) (upd H4 Dl (.lst (acc ++ [y]))) := by
  obtain ⟨hn, ex, ys, hD, hl, hp⟩ := c
  refine he H' ex _ fun y H4 e4 py => ⟨ys, e4 _ _ hD, by rw [hl]; exact sz_lt hi, hn, fun b o q => ?_, ys ++ [y], upd_same, by rw [List.length_append, hl]; rfl, fun j z hj => ?_⟩
  · have nb : b ≠ Dl := fun z => by rw [z, hn] at q; cases q
    rw [upd_ne nb]
    exact e4 _ _ (ex _ _ q)
  · have kk : Kp Dl H4 (upd H4 Dl (.lst (ys ++ [y]))) := Kp.set (Kp.refl _ _)
    by_cases hj' : j < ys.length
    · rw [List.getElem?_append_left hj'] at hj
      exact hs _ _ _ _ Dl ys (e4 _ _ hD) kk (hs _ _ _ _ Dl ys hD (Kp.of e4) (hp j z hj))
    · rw [List.getElem?_append_right (by omega)] at hj
      have e0 : j - ys.length = 0 := by
        have := (List.getElem?_eq_some_iff.mp hj).1
        simp at this
        omega
      rw [e0] at hj
      have ej : j = i := by omega
      cases hj
      subst ej
      exact hs _ _ _ _ Dl ys (e4 _ _ hD) kk py
theorem en_lcL {a : Addr} {xs : List V} {j : Nat} {vs : List Nat} {P : Nat → V → Hp → Prop} (hs : Sits P) (h : Ev tl σ H (.ref a)) (hx : SqL K H a xs) (hz : xs.length ≤ 40000) (hw : ∀ x, wipe ((wipe σ vs).set j (some x)) vs = wipe σ vs)
    (he : ∀ (i : Nat) (x : V) H1, Ex H H1 → xs[i]? = some x → EvX te ((wipe σ vs).set j (some x)) H1 (P i)) : EvN (tLc (iList K tl) (gName j) tYes te vs) σ H (Made P xs.length) := fun H0 e Q q => h H0 e _ fun H1 e1 => ⟨a, rfl, ⟨xs, ex_l (e.trans e1) hx⟩, fun Dl hD =>
  lc_list (xs := xs) (Cx2 H1 P Dl) ⟨hD, Ex.new hD, [], upd_same, rfl, fun j y hj => by simp at hj⟩ (fun i H' _ p => ex_l ((e.trans e1).trans p.2.1) hx) (fun i x H' hi p => ⟨hw x, by
    exact cx2_turn hs p (by have := (List.getElem?_eq_some_iff.mp hi).1; omega) (he i x H1 (e.trans e1) hi)⟩)
    (fun H' p => by
      obtain ⟨hn, ex, ys, h1, h2, h3⟩ := p
      exact q Dl H' (fresh_back e1 hn) (e1.trans ex) ⟨Dl, ys, rfl, h1, h2, h3⟩)⟩
end
end Way

/-! readings of own exceptions -/
namespace Way
open PySem PySem.Spec PyProof.Rows L2 Evl
theorem log_le {b : Int} (h0 : 0 < b) (h1 : b ≤ 10000000000000000) : b.natAbs.log2 < 9000 := by
  have h2 : b.natAbs < 2 ^ 60 := by omega
  have := (Nat.log2_lt (n := b.natAbs) (k := 60) (by omega)).mpr h2
  omega
section
variable {K : PySem.W.Frag} {C : Addr} {f g : Str} {H : Hp} {a : Addr} {v w : V} {Q : VK} {z : Option V}
theorem init2 (T : OexC K C) (hno : PySem.W.findIn K (.ref C) f = some none) (hnog : PySem.W.findIn K (.ref C) g = some none) (ha : H a = some (exo a C none)) (k : ∀ dx, H dx = none → dx ≠ a → Q .non (upd (upd (upd H dx (exd dx [(f, v)])) a (exo a C (some dx))) dx (exd dx [(g, w), (f, v)]))) {ct bk : L2.St → Hp → Prop} :
    tSeq (tOst K f (tVar 0) (tVar 1)) (tOst K g (tVar 0) (tVar 2)) { nx := fun _ H' => Q .non H', rt := Q, bk := bk, ct := ct } [some (.ref a), some v, some w, z] H :=
  ⟨_, rfl, _, rfl, a, C, rfl, T, hno, .inl ⟨ha, fun dx hd hn => ⟨_, rfl, _, rfl, a, C, rfl, T, hnog, .inr ⟨dx, _, upd_same, (upd_ne hn).trans upd_same, (by decide : 1 ≤ 900), k dx hd hn⟩⟩⟩⟩
end
/-- raise X(), an own exception class without own __init__ -/
theorem pmk_own0 {X : Cx} {C : Addr} {bmB : List Value} {B newId initId : String} {x : Str} {p pos : Pos} (F : ExcBaseFacts B newId initId bmB) (q : PySem.W.excIn X.K C bmB newId = true) (gC : X.mg x = some (.ref C)) (kC : PySem.W.keepIn X.K (.ref C) = true) (r : Raises X (.ref C)) (hg : Gl X x)
    (hdb : (x == ("__debug__" : Str)) = false := by decide) : PMk X (.Call (.Name x p) [] [] pos) (fun _ H Q => Q (.ref C) none H) := by
  intro pins s σ H Q I h
  refine wpAny_Call_Name_kw (ld_glob I hg gC ?_ hdb)
  refine PySem.W.callWith_K0 I.kIn kC ?_
  show wpAny _ _ (call (.ref C) []) _ _ _
  obtain ⟨bm, N, nm, qn, bs, hdct, sn, sub, ab, col, dd, k0, k1, k2, k3, k5, mN, hC, hN, hni, T⟩ := exc_obj I.kIn q
  refine wpAny_call_exc_subT F T hC hN hni (fun h' e hm => ?_) (by show 0 ≤ sizeLine; exact Nat.zero_le _)
  exact mk_of I hm r h (I.hok.gone hm.new)
theorem takes0 {X : Cx} : Takes X (fun _ _ _ _ => False) := fun _ _ x => by
  obtain ⟨_, _, _, _, _, _, _, _, _, _, _, _, _, _, _, _, z⟩ := x
  exact z.elim
/-! what is evaluated holds P -/
def EvXA (ta : TA) (σ : L2.St) (H : Hp) (P : List V → Hp → Prop) : Prop := ∀ H1, Ex H H1 → ∀ Q : List V → Hp → Prop, (∀ v H2, Ex H1 H2 → P v H2 → Q v H2) → ta σ H1 Q
section
variable {σ : L2.St} {H : Hp} {te tb : TE} {ta tr : TA} {D : Ends} {tz : TS}
theorem exa_nil {P : List V → Hp → Prop} (p : ∀ H1, P [] H1) : EvXA tNil σ H P := fun H1 _ _ q => q [] H1 (Ex.refl H1) (p H1)
theorem exa_cons {P : V → Hp → Prop} {R S : List V → Hp → Prop} (h : EvX te σ H P) (hr : EvXA tr σ H R) (m : ∀ v H1 H2, Ex H1 H2 → P v H1 → P v H2) (s : ∀ v vs H1, P v H1 → R vs H1 → S (v :: vs) H1) : EvXA (tCons te tr) σ H S := fun H1 e Q q =>
  h H1 e _ fun v H2 e2 p => hr H2 (e.trans e2) _ fun vs H3 e3 r => q _ H3 (e2.trans e3) (s v vs H3 (m v H2 H3 e3 p) r)
theorem ex_lst {R : List V → Hp → Prop} (h : EvXA ta σ H R) (m : ∀ v H1 H2, Ex H1 H2 → R v H1 → R v H2) (hl : ∀ vs H1, R vs H1 → vs.length ≤ 100000) : EvX (tLst ta) σ H (fun v H' => ∃ p xs, v = .ref p ∧ H' p = some (.lst xs) ∧ R xs H') := fun H1 e Q q =>
  h H1 e _ fun xs H2 e2 r => ⟨sz_of (hl xs H2 r), fun p hp => q _ _ (e2.trans (Ex.new hp)) ⟨p, xs, rfl, upd_same, m xs H2 _ (Ex.new hp) r⟩⟩
theorem ex_tup {R : List V → Hp → Prop} (h : EvXA ta σ H R) (m : ∀ v H1 H2, Ex H1 H2 → R v H1 → R v H2) (hl : ∀ vs H1, R vs H1 → vs.length ≤ 100000) : EvX (tTup ta) σ H (fun v H' => ∃ p xs, v = .ref p ∧ H' p = some (.tup xs) ∧ R xs H') := fun H1 e Q q =>
  h H1 e _ fun xs H2 e2 r => ⟨sz_of (hl xs H2 r), fun p hp => q _ _ (e2.trans (Ex.new hp)) ⟨p, xs, rfl, upd_same, m xs H2 _ (Ex.new hp) r⟩⟩
theorem ex_cat {R S : List V → Hp → Prop} (h : EvX te σ H (fun v H' => ∃ p xs, v = .ref p ∧ H' p = some (.lst xs) ∧ R xs H')) (h2 : EvX tb σ H (fun v H' => ∃ p xs, v = .ref p ∧ H' p = some (.lst xs) ∧ S xs H')) (m : ∀ v H1 H2, Ex H1 H2 → R v H1 → R v H2) (m2 : ∀ v H1 H2, Ex H1 H2 → S v H1 → S v H2) (hl : ∀ vs H1, R vs H1 → vs.length ≤ 50000) (hl2 : ∀ vs H1, S vs H1 → vs.length ≤ 50000) :
    EvX (tOp rCat te tb) σ H (fun v H' => ∃ p zs, v = .ref p ∧ H' p = some (.lst zs) ∧ ∃ xs ys, zs = xs ++ ys ∧ R xs H' ∧ S ys H') := fun H1 e Q q =>
  h H1 e _ fun v H2 e2 ⟨p, xs, ev, hp, hr⟩ => h2 H2 (e.trans e2) _ fun w H3 e3 ⟨p', ys, ew, hp', hs⟩ => by
    refine ⟨p, p', xs, ys, ev, ew, e3 _ _ hp, hp', ?_, fun t ht => ?_⟩
    · have h1 := hl _ _ hr
      have h2 := hl2 _ _ hs
      first | exact sz_of (by rw [List.length_append]; omega) | exact sz_of (by omega)
    · exact q _ _ ((e2.trans e3).trans (Ex.new ht)) ⟨t, _, rfl, upd_same, xs, ys, rfl, m xs _ _ (e3.trans (Ex.new ht)) hr, m2 ys _ _ (Ex.new ht) hs⟩
end
/-! own exceptions -/
section
variable {K : PySem.W.Frag} {σ : L2.St} {H : Hp} {te : TE} {ta tk : TA} {E : XK} {C : Addr} {f g : Str}
/-- at e: an own error of the class C, its fields -/
def ErrF (C : Addr) (fs : List (Str × V)) (v : V) (H : Hp) : Prop := ∃ e dx, v = .ref e ∧ H e = some (exo e C (some dx)) ∧ H dx = some (exd dx fs)
theorem ErrF.mono {fs : List (Str × V)} {v : V} {H H' : Hp} (x : Ex H H') (h : ErrF C fs v H) : ErrF C fs v H' := let ⟨e, dx, h1, h2, h3⟩ := h; ⟨e, dx, h1, x _ _ h2, x _ _ h3⟩
theorem ex_mk1 {v : V} (h : EvA ta σ H [v]) : EvX (tMkX C (spX1 C f) [] E ta) σ H (ErrF C [(f, v)]) := fun H1 e Q q =>
  h H1 e _ fun H2 e2 => ⟨(by decide : 1 ≤ 1000), fun a ha => ⟨a, v, rfl, upd_same, fun dx hd hn => ⟨rfl, by
    have hd' : H2 dx = none := by rw [upd_ne hn] at hd; exact hd
    refine q _ _ (e2.trans ?_) ⟨a, dx, rfl, upd_same, (upd_ne hn).trans upd_same⟩
    intro b o eb
    have ba := ne_of_none eb ha
    have bd := ne_of_none eb hd'
    rw [upd_ne ba, upd_ne bd, upd_ne ba]
    exact eb⟩⟩⟩
theorem ex_mk2 {v w : V} (h : EvA ta σ H [v, w]) : EvX (tMkX C (spX2 C f g) [] E ta) σ H (ErrF C [(g, w), (f, v)]) := fun H1 e Q q =>
  h H1 e _ fun H2 e2 => ⟨(by decide : 2 ≤ 1000), fun a ha => ⟨a, v, w, rfl, upd_same, fun dx hd hn => ⟨rfl, by
    have hd' : H2 dx = none := by rw [upd_ne hn] at hd; exact hd
    refine q _ _ (e2.trans ?_) ⟨a, dx, rfl, (upd_ne (Ne.symm hn)).trans upd_same, upd_same⟩
    intro b o eb
    have ba := ne_of_none eb ha
    have bd := ne_of_none eb hd'
    rw [upd_ne bd, upd_ne ba, upd_ne bd, upd_ne ba]
    exact eb⟩⟩⟩
theorem ex_mkK1 {gV : List V → List V → List V} {zs : List V} {m : Nat} {v : V} (h : EvA tk σ H zs) (hm : zs.length = m) (hv : ∀ a, gV [.ref a] zs = [.ref a, v]) : EvX (tMkXK C m (spX1 C f) gV E tk) σ H (ErrF C [(f, v)]) := fun H1 e Q q =>
  h H1 e _ fun H2 e2 => ⟨hm, fun a ha => by
    rw [hv]
    refine ⟨a, v, rfl, upd_same, fun dx hd hn => ⟨rfl, ?_⟩⟩
    have hd' : H2 dx = none := by rw [upd_ne hn] at hd; exact hd
    refine q _ _ (e2.trans ?_) ⟨a, dx, rfl, upd_same, (upd_ne hn).trans upd_same⟩
    intro b o eb
    have ba := ne_of_none eb ha
    have bd := ne_of_none eb hd'
    rw [upd_ne ba, upd_ne bd, upd_ne ba]
    exact eb⟩
theorem ex_mkK2 {gV : List V → List V → List V} {zs : List V} {m : Nat} {v w : V} (h : EvA tk σ H zs) (hm : zs.length = m) (hv : ∀ a, gV [.ref a] zs = [.ref a, v, w]) : EvX (tMkXK C m (spX2 C f g) gV E tk) σ H (ErrF C [(g, w), (f, v)]) := fun H1 e Q q =>
  h H1 e _ fun H2 e2 => ⟨hm, fun a ha => by
    rw [hv]
    refine ⟨a, v, w, rfl, upd_same, fun dx hd hn => ⟨rfl, ?_⟩⟩
    have hd' : H2 dx = none := by rw [upd_ne hn] at hd; exact hd
    refine q _ _ (e2.trans ?_) ⟨a, dx, rfl, (upd_ne (Ne.symm hn)).trans upd_same, upd_same⟩
    intro b o eb
    have ba := ne_of_none eb ha
    have bd := ne_of_none eb hd'
    rw [upd_ne bd, upd_ne ba, upd_ne bd, upd_ne ba]
    exact eb⟩
theorem ev_xv {fs : List (Str × V)} {u v : V} (h : Ev te σ H u) (x : ErrF C fs u H) (T : XfC K C) (hno : PySem.W.findIn K (.ref C) f = some none) (l : fs.lookup f = some v) : Ev (tXv K f te) σ H v := fun H1 e Q q =>
  h H1 e _ fun H2 e2 => by
    obtain ⟨a, dx, rfl, h1, h2⟩ := x
    have e3 := e.trans e2
    exact ⟨a, C, dx, fs, v, rfl, T, hno, e3 _ _ h1, e3 _ _ h2, l, q H2 e2⟩
/-- an own error of the class C -/
def Err (C : Addr) (v : V) (H : Hp) : Prop := ∃ e d, v = .ref e ∧ H e = some (exo e C d) ∧ ∀ dx, d = some dx → ∃ fs, H dx = some (exd dx fs)
theorem Err.mono {v : V} {H H' : Hp} (x : Ex H H') (h : Err C v H) : Err C v H' := let ⟨e, d, h1, h2, h3⟩ := h; ⟨e, d, h1, x _ _ h2, fun dx q => let ⟨fs, r⟩ := h3 dx q; ⟨fs, x _ _ r⟩⟩
theorem ErrF.err {fs : List (Str × V)} {v : V} (h : ErrF C fs v H) : Err C v H := let ⟨e, dx, h1, h2, h3⟩ := h; ⟨e, some dx, h1, h2, fun dy q => by cases q; exact ⟨fs, h3⟩⟩
theorem ex_mk0 : EvX (fun σ H Q => ∀ a, H a = none → Q (.ref a) (upd H a (exo a C none))) σ H (Err C) := fun H1 e Q q a ha => q _ _ (Ex.new ha) ⟨a, none, rfl, upd_same, fun dx z => nomatch z⟩
theorem rc_isX {v c : V} {cv : Value} {b : Bool} (x : Err C v H) (T : ExcC K C) (k : ClsV c cv) (e : PySem.W.kitOne K (.ref C) cv = some b) : RC (rIsX K) [v, c] H (.bl b) := fun H1 e1 Q q => by
  obtain ⟨a, d, rfl, h1, h2⟩ := x.mono e1
  exact ⟨a, C, d, c, cv, b, rfl, h1, h2, T, k, e, q H1 (Ex.refl H1)⟩
end
end Way

/-! lists of things that are told by codes; what comprehensions make of them -/
namespace Way
open PySem PySem.Spec PyProof.Rows L2 Evl
section
variable {α : Type} {R : V → α → Prop}
theorem pr_at : ∀ {xs : List V} {S : List α} {i : Nat} {x : V}, Paired R xs S → xs[i]? = some x → ∃ y, S[i]? = some y ∧ R x y
  | _, _, _, _, .nil, h => by simp at h
  | _, _, 0, _, .cons a _, h => by simp at h; subst h; exact ⟨_, rfl, a⟩
  | _, _, i + 1, _, .cons _ t, h => by simp at h; obtain ⟨y, h1, h2⟩ := pr_at t h; exact ⟨y, by simpa using h1, h2⟩
theorem pr_app {xs us : List V} {ys vs : List α} (p : Paired R xs ys) (t : Paired R us vs) : Paired R (xs ++ us) (ys ++ vs) := by
  induction p with
  | nil => exact t
  | cons a r ih => exact .cons a ih
theorem given_cons {n : Nat} {f : Nat → Bool} {v : Nat → V} : given (n + 1) f v = (if f 0 = true then [v 0] else []) ++ given n (fun i => f (i + 1)) (fun i => v (i + 1)) := by
  unfold given
  rw [List.range_succ_eq_map, List.filter_cons]
  cases h : f 0 with
  | true =>
    simp only [if_true, List.map_cons, List.filter_map, List.map_map, List.singleton_append]
    rfl
  | false =>
    simp only [Bool.false_eq_true, if_false, List.filter_map, List.map_map, List.nil_append]
    rfl
theorem given_flt {g : α → Bool} : ∀ {xs : List V} {S : List α} {f : Nat → Bool} {v : Nat → V}, Paired R xs S → (∀ i x y, xs[i]? = some x → S[i]? = some y → f i = g y ∧ v i = x) → Paired R (given xs.length f v) (S.filter g)
  | _, _, f, v, .nil, h => by
    unfold given
    exact .nil
  | x :: _, y :: _, f, v, .cons a t, h => by
    rw [List.length_cons, given_cons, List.filter_cons]
    obtain ⟨h1, h2⟩ := h 0 x y rfl rfl
    have ih := given_flt (g := g) (f := fun i => f (i + 1)) (v := fun i => v (i + 1)) t fun i x' y' e1 e2 => h (i + 1) x' y' (by simpa using e1) (by simpa using e2)
    rw [h1, h2]
    cases g y with
    | true => exact .cons a ih
    | false => exact ih
end
/-- a list of things told by codes -/
def LAt {α : Type} (P : α → V → Hp → Prop) (S : List α) (v : V) (H : Hp) : Prop := ∃ p xs, v = .ref p ∧ H p = some (.lst xs) ∧ Paired (fun x i => P i x H) xs S
def UAt {α : Type} (P : α → V → Hp → Prop) (S : List α) (v : V) (H : Hp) : Prop := ∃ p xs, v = .ref p ∧ H p = some (.tup xs) ∧ Paired (fun x i => P i x H) xs S
section
variable {K : PySem.W.Frag} {σ : L2.St} {H : Hp} {te tb tl : TE} {t : TT} {ta tr : TA} {D : Ends} {tz : TS} {α : Type} {P : α → V → Hp → Prop} {S : List α}
def Mon (P : α → V → Hp → Prop) : Prop := ∀ i v H H', Ex H H' → P i v H → P i v H'
theorem LAt.mono {v : V} {H' : Hp} (m : Mon P) (e : Ex H H') (h : LAt P S v H) : LAt P S v H' := let ⟨p, xs, h1, h2, h3⟩ := h; ⟨p, xs, h1, e _ _ h2, Paired.mapP h3 fun _ _ q => m _ _ _ _ e q⟩
theorem UAt.mono {v : V} {H' : Hp} (m : Mon P) (e : Ex H H') (h : UAt P S v H) : UAt P S v H' := let ⟨p, xs, h1, h2, h3⟩ := h; ⟨p, xs, h1, e _ _ h2, Paired.mapP h3 fun _ _ q => m _ _ _ _ e q⟩
/-- [x for x in l if t] -/
theorem en_fltL {u : V} {j : Nat} {vs : List Nat} {g : α → Bool} (m : Mon P) (h : Ev tl σ H u) (hp : LAt P S u H) (hz : S.length ≤ 40000) (hj : j < σ.length) (hw : ∀ x, wipe ((wipe σ vs).set j (some x)) vs = wipe σ vs)
    (ht : ∀ (x : V) (i : α) H1, Ex H H1 → i ∈ S → P i x H1 → EvT t ((wipe σ vs).set j (some x)) H1 (g i)) : EvN (tLc (iList K tl) (gName j) t (tVar j) vs) σ H (LAt P (S.filter g)) := by
  obtain ⟨p, xs, rfl, hl, hx⟩ := hp
  have hlen : xs.length = S.length := Paired.length hx
  intro H1 e Q q
  have hat : ∀ i x, xs[i]? = some x → ∃ y, S[i]? = some y ∧ P y x H := fun i x hi => pr_at hx hi
  refine el_lcL (K := K) (fun i => (S[i]?.map g).getD false) (fun i => xs.getD i .non) h (sq_of hl) (by omega) hw (fun i x H2 e2 hi => ?_) (fun i x H2 e2 hi _ => ?_) H1 e Q fun pn H2 hn e2 h2 => ?_
  · obtain ⟨y, hy, py⟩ := hat i x hi
    rw [hy]
    exact ht x y H2 e2 (List.mem_of_getElem? hy) (m _ _ _ _ e2 py)
  · have ed : xs.getD i .non = x := by rw [List.getD_eq_getElem?_getD, hi]; rfl
    rw [ed]
    refine ev_var ?_
    rw [List.getElem?_set_self (by rw [wipe_length]; exact hj)]
  · refine q pn _ hn e2 ⟨pn, _, rfl, h2, ?_⟩
    refine Paired.mapP (given_flt (g := g) hx fun i x y e1 e2 => ⟨by rw [e2]; rfl, by rw [List.getD_eq_getElem?_getD, e1]; rfl⟩) fun _ _ z => m _ _ _ _ (e.trans e2) z
/-- [x for x in l] of booleans and the like: [e for x in l], e told by the code -/
theorem el_mapL {u : V} {j : Nat} {vs : List Nat} {w : α → V} (m : Mon P) (h : Ev tl σ H u) (hp : LAt P S u H) (hz : S.length ≤ 40000) (hw : ∀ x, wipe ((wipe σ vs).set j (some x)) vs = wipe σ vs)
    (he : ∀ (x : V) (i : α) H1, Ex H H1 → i ∈ S → P i x H1 → Ev te ((wipe σ vs).set j (some x)) H1 (w i)) : EvL (tLc (iList K tl) (gName j) tYes te vs) σ H (S.map w) := by
  obtain ⟨p, xs, rfl, hl, hx⟩ := hp
  have hlen : xs.length = S.length := Paired.length hx
  have hat : ∀ i x, xs[i]? = some x → ∃ y, S[i]? = some y ∧ P y x H := fun i x hi => pr_at hx hi
  have eq : given xs.length (fun _ => true) (fun i => (S[i]?.map w).getD .non) = S.map w := by
    unfold given
    rw [List.filter_eq_self.mpr fun _ _ => rfl, hlen]
    refine List.ext_getElem? fun i => ?_
    rw [List.getElem?_map, List.getElem?_map]
    by_cases hi : i < S.length
    · rw [List.getElem?_range hi, List.getElem?_eq_getElem hi]
      show some ((Option.map w S[i]?).getD V.non) = some (w S[i])
      rw [List.getElem?_eq_getElem hi]
      rfl
    · rw [List.getElem?_eq_none (by simpa using Nat.le_of_not_lt hi), List.getElem?_eq_none (Nat.le_of_not_lt hi)]; rfl
  rw [← eq]
  refine el_lcL (K := K) (fun _ => true) (fun i => (S[i]?.map w).getD .non) h (sq_of hl) (by omega) hw (fun i x H2 e2 hi => ?_) (fun i x H2 e2 hi _ => ?_)
  · exact fun H3 e3 Q q => q H3 (Ex.refl H3)
  · obtain ⟨y, hy, py⟩ := hat i x hi
    rw [hy]
    exact he x y H2 e2 (List.mem_of_getElem? hy) (m _ _ _ _ e2 py)
/-- the same over a tuple -/
theorem el_mapT {p : Addr} {xs : List V} {j : Nat} {vs : List Nat} {w : α → V} (m : Mon P) (h : Ev tl σ H (.ref p)) (hs : SqT K H p xs) (hx : Paired (fun x i => P i x H) xs S) (hz : S.length ≤ 40000) (hw : ∀ x, wipe ((wipe σ vs).set j (some x)) vs = wipe σ vs)
    (he : ∀ (x : V) (i : α) H1, Ex H H1 → i ∈ S → P i x H1 → Ev te ((wipe σ vs).set j (some x)) H1 (w i)) : EvL (tLc (iTup K tl) (gName j) tYes te vs) σ H (S.map w) := by
  have hlen : xs.length = S.length := Paired.length hx
  have hat : ∀ i x, xs[i]? = some x → ∃ y, S[i]? = some y ∧ P y x H := fun i x hi => pr_at hx hi
  have eq : given xs.length (fun _ => true) (fun i => (S[i]?.map w).getD .non) = S.map w := by
    unfold given
    rw [List.filter_eq_self.mpr fun _ _ => rfl, hlen]
    refine List.ext_getElem? fun i => ?_
    rw [List.getElem?_map, List.getElem?_map]
    by_cases hi : i < S.length
    · rw [List.getElem?_range hi, List.getElem?_eq_getElem hi]
      show some ((Option.map w S[i]?).getD V.non) = some (w S[i])
      rw [List.getElem?_eq_getElem hi]
      rfl
    · rw [List.getElem?_eq_none (by simpa using Nat.le_of_not_lt hi), List.getElem?_eq_none (Nat.le_of_not_lt hi)]; rfl
  rw [← eq]
  refine el_lcT (K := K) (fun _ => true) (fun i => (S[i]?.map w).getD .non) h hs (by omega) hw (fun i x H2 e2 hi => ?_) (fun i x H2 e2 hi _ => ?_)
  · exact fun H3 e3 Q q => q H3 (Ex.refl H3)
  · obtain ⟨y, hy, py⟩ := hat i x hi
    rw [hy]
    exact he x y H2 e2 (List.mem_of_getElem? hy) (m _ _ _ _ e2 py)
/-- [w for w in TUPLE if t], values that are no objects -/
theorem el_fltT {p : Addr} {xs : List V} {j : Nat} {vs : List Nat} {g : V → Bool} (h : Ev tl σ H (.ref p)) (hs : SqT K H p xs) (hz : xs.length ≤ 40000) (hj : j < σ.length) (hw : ∀ x, wipe ((wipe σ vs).set j (some x)) vs = wipe σ vs)
    (ht : ∀ (x : V) H1, Ex H H1 → x ∈ xs → EvT t ((wipe σ vs).set j (some x)) H1 (g x)) : EvL (tLc (iTup K tl) (gName j) t (tVar j) vs) σ H (xs.filter g) := by
  have eq : given xs.length (fun i => (xs[i]?.map g).getD false) (fun i => xs.getD i .non) = xs.filter g := by
    have := given_flt (R := fun x y => x = y) (g := g) (f := fun i => (xs[i]?.map g).getD false) (v := fun i => xs.getD i .non) (xs := xs) (S := xs) ?_ fun i x y e1 e2 => ⟨by rw [e2]; rfl, by rw [List.getD_eq_getElem?_getD, e1]; rfl⟩
    · clear ht hs h hz
      revert this
      generalize given xs.length (fun i => (xs[i]?.map g).getD false) (fun i => xs.getD i .non) = as
      generalize xs.filter g = bs
      intro this
      induction this with
      | nil => rfl
      | cons a _ ih => rw [a, ih]
    · clear ht hs h hz
      induction xs with
      | nil => exact .nil
      | cons a r ih => exact .cons rfl ih
  rw [← eq]
  refine el_lcT (K := K) (fun i => (xs[i]?.map g).getD false) (fun i => xs.getD i .non) h hs hz hw (fun i x H2 e2 hi => ?_) (fun i x H2 e2 hi _ => ?_)
  · rw [hi]
    exact ht x H2 e2 (List.mem_of_getElem? hi)
  · have ed : xs.getD i .non = x := by rw [List.getD_eq_getElem?_getD, hi]; rfl
    rw [ed]
    refine ev_var ?_
    rw [List.getElem?_set_self (by rw [wipe_length]; exact hj)]
/-- [e for x in TUPLE] -/
theorem el_mapV {p : Addr} {xs : List V} {j : Nat} {vs : List Nat} {w : V → V} (h : Ev tl σ H (.ref p)) (hs : SqT K H p xs) (hz : xs.length ≤ 40000) (hw : ∀ x, wipe ((wipe σ vs).set j (some x)) vs = wipe σ vs)
    (he : ∀ (x : V) H1, Ex H H1 → x ∈ xs → Ev te ((wipe σ vs).set j (some x)) H1 (w x)) : EvL (tLc (iTup K tl) (gName j) tYes te vs) σ H (xs.map w) :=
  el_mapT (P := fun (i : V) v (_ : Hp) => v = i) (fun _ _ _ _ _ z => z) h hs (by
    clear he hs h hz
    induction xs with
    | nil => exact .nil
    | cons a r ih => exact .cons rfl ih) hz hw fun x i H1 e hi z => by subst z; exact he x H1 e hi
theorem ev_all {bs : List Bool} (h : EvL te σ H (bs.map V.bl)) : Ev (tCB (rAll K) (tCons te tNil)) σ H (.bl (bs.all id)) := fun H1 e Q q => h H1 e _ fun p H2 hn e2 h2 => ⟨p, bs, rfl, SqL.of h2, q H2 e2⟩
theorem ev_any {bs : List Bool} (h : EvL te σ H (bs.map V.bl)) : Ev (tCB (rAny K) (tCons te tNil)) σ H (.bl (bs.any id)) := fun H1 e Q q => h H1 e _ fun p H2 hn e2 h2 => ⟨p, bs, rfl, SqL.of h2, q H2 e2⟩
theorem ev_allV {p : Addr} {xs : List V} {j : Nat} {vs : List Nat} {w : V → Bool} (h : Ev tl σ H (.ref p)) (hs : SqT K H p xs) (hz : xs.length ≤ 40000) (hw : ∀ x, wipe ((wipe σ vs).set j (some x)) vs = wipe σ vs)
    (he : ∀ (x : V) H1, Ex H H1 → x ∈ xs → Ev te ((wipe σ vs).set j (some x)) H1 (.bl (w x))) : Ev (tCB (rAll K) (tCons (tLc (iTup K tl) (gName j) tYes te vs) tNil)) σ H (.bl ((xs.map w).all id)) :=
  ev_all (by rw [List.map_map]; exact el_mapV (w := fun x => .bl (w x)) h hs hz hw he)
theorem ev_allP {p : Addr} {xs : List V} {j : Nat} {vs : List Nat} {w : α → Bool} (m : Mon P) (h : Ev tl σ H (.ref p)) (hs : SqT K H p xs) (hx : Paired (fun x i => P i x H) xs S) (hz : S.length ≤ 40000) (hw : ∀ x, wipe ((wipe σ vs).set j (some x)) vs = wipe σ vs)
    (he : ∀ (x : V) (i : α) H1, Ex H H1 → i ∈ S → P i x H1 → Ev te ((wipe σ vs).set j (some x)) H1 (.bl (w i))) : Ev (tCB (rAll K) (tCons (tLc (iTup K tl) (gName j) tYes te vs) tNil)) σ H (.bl ((S.map w).all id)) :=
  ev_all (by rw [List.map_map]; exact el_mapT (w := fun x => .bl (w x)) m h hs hx hz hw he)
theorem ev_anyP {p : Addr} {xs : List V} {j : Nat} {vs : List Nat} {w : α → Bool} (m : Mon P) (h : Ev tl σ H (.ref p)) (hs : SqT K H p xs) (hx : Paired (fun x i => P i x H) xs S) (hz : S.length ≤ 40000) (hw : ∀ x, wipe ((wipe σ vs).set j (some x)) vs = wipe σ vs)
    (he : ∀ (x : V) (i : α) H1, Ex H H1 → i ∈ S → P i x H1 → Ev te ((wipe σ vs).set j (some x)) H1 (.bl (w i))) : Ev (tCB (rAny K) (tCons (tLc (iTup K tl) (gName j) tYes te vs) tNil)) σ H (.bl ((S.map w).any id)) :=
  ev_any (by rw [List.map_map]; exact el_mapT (w := fun x => .bl (w x)) m h hs hx hz hw he)
/-- displays of things told by codes -/
def EvP (ta : TA) (σ : L2.St) (H : Hp) (P : α → V → Hp → Prop) (S : List α) : Prop := ∀ H1, Ex H H1 → ∀ Q : List V → Hp → Prop, (∀ xs H2, Ex H1 H2 → Paired (fun x i => P i x H2) xs S → Q xs H2) → ta σ H1 Q
theorem evp_nil : EvP tNil σ H P [] := fun H1 _ _ q => q [] H1 (Ex.refl H1) .nil
theorem evp_cons {i : α} (m : Mon P) (h : EvX te σ H (P i)) (r : EvP tr σ H P S) : EvP (tCons te tr) σ H P (i :: S) := fun H1 e Q q =>
  h H1 e _ fun v H2 e2 p => r H2 (e.trans e2) _ fun xs H3 e3 ps => q _ H3 (e2.trans e3) (.cons (m _ _ _ _ e3 p) ps)
theorem en_lstP (m : Mon P) (h : EvP ta σ H P S) (hz : S.length ≤ 100000) : EvN (tLst ta) σ H (LAt P S) := fun H1 e Q q =>
  h H1 e _ fun xs H2 e2 ps => ⟨sz_of (by have := Paired.length ps; omega), fun p hp => q p _ (fresh_back e2 hp) (e2.trans (Ex.new hp)) ⟨p, xs, rfl, upd_same, Paired.mapP ps fun _ _ z => m _ _ _ _ (Ex.new hp) z⟩⟩
/-- facts that outlive the filling of a list -/
def Stay (P : α → V → Hp → Prop) : Prop := ∀ i v H H' D acc, H D = some (.lst acc) → Kp D H H' → P i v H → P i v H'
theorem pr_of {β : Type} {R : V → β → Prop} : ∀ {ys : List V} {S : List β}, ys.length = S.length → (∀ (i : Nat) y s, ys[i]? = some y → S[i]? = some s → R y s) → Paired R ys S
  | [], [], _, _ => .nil
  | y :: ys, s :: S, hl, h => .cons (h 0 y s rfl rfl) (pr_of (by simpa using hl) fun i a b e1 e2 => h (i + 1) a b (by simpa using e1) (by simpa using e2))
/-- [e for x in l], e makes objects -/
theorem en_mapL {β : Type} {R : β → V → Hp → Prop} {c : α → β} {u : V} {j : Nat} {vs : List Nat} (m : Mon P) (hR : Stay R) (h : Ev tl σ H u) (hp : LAt P S u H) (hz : S.length ≤ 40000) (hw : ∀ x, wipe ((wipe σ vs).set j (some x)) vs = wipe σ vs)
    (he : ∀ (x : V) (i : α) H1, Ex H H1 → i ∈ S → P i x H1 → EvX te ((wipe σ vs).set j (some x)) H1 (R (c i))) : EvN (tLc (iList K tl) (gName j) tYes te vs) σ H (LAt R (S.map c)) := by
  obtain ⟨p, xs, rfl, hl, hx⟩ := hp
  have hlen : xs.length = S.length := Paired.length hx
  refine (en_lcL (K := K) (P := fun k v H' => ∀ s, S[k]? = some s → R (c s) v H') (fun i v H1 H2 D acc h1 h2 h3 s hs => hR _ _ _ _ D acc h1 h2 (h3 s hs)) h (sq_of hl) (by omega) hw fun i x H1 e hi => ?_).to fun v H1 e hm => ?_
  · obtain ⟨y, hy, py⟩ := pr_at hx hi
    refine (he x y H1 e (List.mem_of_getElem? hy) (m _ _ _ _ e py)).to fun v H2 e2 r s hs => ?_
    rw [hy] at hs
    cases hs
    exact r
  · obtain ⟨q, ys, h1, h2, h3, h4⟩ := hm
    refine ⟨q, ys, h1, h2, pr_of (by rw [List.length_map, h3, hlen]) fun i y s e1 e2 => ?_⟩
    rw [List.getElem?_map] at e2
    cases e3 : S[i]? with
    | none => rw [e3] at e2; cases e2
    | some z => rw [e3] at e2; cases e2; exact h4 i y e1 z e3
/-- a for over a list that is made for it -/
theorem x_forL {g : TG} {tu : TS} (h : EvN tl σ H (LAt P S)) (Iv : Addr → List V → Nat → L2.St → Hp → Prop) (h0 : ∀ l xs H1, H l = none → Ex H H1 → H1 l = some (.lst xs) → Paired (fun x i => P i x H1) xs S → Iv l xs 0 σ H1) (hl : ∀ l xs i σ' H', Iv l xs i σ' H' → H' l = some (.lst xs))
    (hs : ∀ l xs i x σ' H', xs[i]? = some x → Iv l xs i σ' H' → g x σ' H' fun σ2 H2 => tu { D with nx := Iv l xs (i + 1), ct := Iv l xs (i + 1), bk := tz D } σ2 H2) (hd : ∀ l xs σ' H', Iv l xs xs.length σ' H' → tz D σ' H') : tSeq (tFor (iList K tl) g tu) tz D σ H :=
  h H (Ex.refl H) _ fun p H1 hn e z => by
    obtain ⟨l, xs, el, h1, hp⟩ := z
    cases el
    exact ⟨p, rfl, ⟨xs, sq_of h1⟩, for_list (D := { D with nx := tz D }) (Iv p xs) (h0 p xs H1 hn e h1 hp) (fun i σ' H' _ q => sq_of (hl p xs i σ' H' q)) (fun i x σ' H' hx q => hs p xs i x σ' H' hx q) (fun σ' H' q => hd p xs σ' H' q)⟩
theorem yes_of {A B : Hp → Prop} (h : A H) : tYes σ H (fun b H3 => if b = true then A H3 else B H3) := by
  show (if true = true then A H else B H)
  rw [if_pos rfl]
  exact h
/-- [e for x in TUPLE for y in TUPLE], e makes objects -/
theorem en_lc2T {β : Type} {R : β → V → Hp → Prop} {c : α → α → β} {S' : List α} {tl' : TE} {p p' : Addr} {xs xs' : List V} {j j' : Nat} {vs vs1 : List Nat} (m : Mon P) (hR : Stay R) (h : Ev tl σ H (.ref p)) (hs : SqT K H p xs) (hx : Paired (fun x i => P i x H) xs S) (hs' : SqT K H p' xs') (hx' : Paired (fun x i => P i x H) xs' S')
    (hz : S.length ≤ 200) (hz' : S'.length ≤ 200) (hw : ∀ x, wipe ((wipe σ vs).set j (some x)) vs = wipe σ vs) (hw1 : ∀ x y, wipe ((wipe ((wipe σ vs).set j (some x)) vs1).set j' (some y)) vs1 = wipe ((wipe σ vs).set j (some x)) vs1) (h' : ∀ x H1, Ex H H1 → Ev tl' ((wipe σ vs).set j (some x)) H1 (.ref p'))
    (he : ∀ x y a b H1, Ex H H1 → P a x H1 → P b y H1 → EvX te ((wipe ((wipe σ vs).set j (some x)) vs1).set j' (some y)) H1 (R (c a b))) :
    EvN (tLc2 (iTup K tl) (gName j) tYes (iTup K tl') (gName j') tYes te vs vs1) σ H (LAt R (S.flatMap fun a => S'.map (c a))) := fun H0 e0 Q q => h H0 e0 _ fun H1 e1 => by
  have e01 := e0.trans e1
  have hlen : xs.length = S.length := Paired.length hx
  have hlen' : xs'.length = S'.length := Paired.length hx'
  have bound : ∀ k, ((S.take k).flatMap fun a => S'.map (c a)).length ≤ 40000 := fun k => by
    have : ∀ T : List α, (T.flatMap fun a => S'.map (c a)).length = T.length * S'.length := fun T => by
      induction T with
      | nil => simp
      | cons a r ih => rw [List.flatMap_cons, List.length_append, ih, List.length_map, List.length_cons, Nat.add_mul]; omega
    rw [this]
    have h1 : (S.take k).length ≤ 200 := Nat.le_trans (by rw [List.length_take]; omega) hz
    calc (S.take k).length * S'.length ≤ 200 * 200 := Nat.mul_le_mul h1 hz'
      _ ≤ 40000 := by decide
  refine ⟨p, rfl, ⟨xs, ex_t e01 hs⟩, fun D hD => ?_⟩
  let J : Nat → List β → Hp → Prop := fun _ T H' => Ex H1 H' ∧ ∃ ys, H' D = some (.lst ys) ∧ Paired (fun y b => R b y H') ys T
  refine ⟨fun i mm H' => mm = xs.length - i ∧ i ≤ xs.length ∧ J i ((S.take i).flatMap fun a => S'.map (c a)) H', ⟨xs.length, by simp, Nat.zero_le _, Ex.new hD, [], upd_same, .nil⟩, ?_⟩
  rintro i mm H' ⟨rfl, hi, ex, ys, hys, pys⟩
  have ex' := e01.trans ex
  by_cases hlt : i < xs.length
  · obtain ⟨a, ha, pa⟩ := pr_at hx (List.getElem?_eq_getElem hlt)
    have hia : i < S.length := (List.getElem?_eq_some_iff.mp ha).1
    have tk : S.take (i + 1) = S.take i ++ [a] := by rw [List.take_succ_eq_append_getElem hia, (List.getElem?_eq_some_iff.mp ha).2]
    refine .inr ⟨⟨xs, _, ex_t ex' hs, List.getElem?_eq_getElem hlt⟩, J (i + 1) ((S.take (i + 1)).flatMap fun a => S'.map (c a)), fun H2 z => ⟨xs.length - (i + 1), by omega, rfl, hlt, z⟩, fun x H2 y2 => ?_⟩
    obtain ⟨rfl, hxa⟩ := y2
    have ex1 : x = xs[i] := by
      have := hxa xs (ex_t ex' hs)
      rw [List.getElem?_eq_getElem hlt] at this
      exact (Option.some.inj this).symm
    subst ex1
    refine ⟨hw _, ?_⟩
    refine yes_of ?_
    refine h' _ H2 ex' H2 (Ex.refl H2) _ fun H3 e3 => ⟨p', rfl, ⟨xs', ex_t (ex'.trans e3) hs'⟩, ?_⟩
    refine ⟨fun k mm H4 => mm = xs'.length - k ∧ k ≤ xs'.length ∧ J k (((S.take i).flatMap fun a => S'.map (c a)) ++ (S'.take k).map (c a)) H4, ⟨xs'.length, by simp, Nat.zero_le _, ex.trans e3, ys, e3 _ _ hys, ?_⟩, ?_⟩
    · rw [List.take_zero, List.map_nil, List.append_nil]
      exact Paired.mapP pys fun _ _ z => hR _ _ _ _ D ys hys (Kp.of e3) z
    · rintro k mm H4 ⟨rfl, hk, exk, zs, hzs, pzs⟩
      have exk' := e01.trans exk
      by_cases hlt' : k < xs'.length
      · obtain ⟨b, hb, pb⟩ := pr_at hx' (List.getElem?_eq_getElem hlt')
        have hkb : k < S'.length := (List.getElem?_eq_some_iff.mp hb).1
        have tk' : S'.take (k + 1) = S'.take k ++ [b] := by rw [List.take_succ_eq_append_getElem hkb, (List.getElem?_eq_some_iff.mp hb).2]
        refine .inr ⟨⟨xs', _, ex_t exk' hs', List.getElem?_eq_getElem hlt'⟩, J (k + 1) (((S.take i).flatMap fun a => S'.map (c a)) ++ (S'.take (k + 1)).map (c a)), fun H5 z => ⟨xs'.length - (k + 1), by omega, rfl, hlt', z⟩, fun y H5 y5 => ?_⟩
        obtain ⟨rfl, hyb⟩ := y5
        have ey : y = xs'[k] := by
          have := hyb xs' (ex_t exk' hs')
          rw [List.getElem?_eq_getElem hlt'] at this
          exact (Option.some.inj this).symm
        subst ey
        refine ⟨hw1 _ _, ?_⟩
        refine yes_of ?_
        refine he _ _ a b H5 exk' (m _ _ _ _ exk' pa) (m _ _ _ _ exk' pb) H5 (Ex.refl H5) _ fun v H6 e6 r => ⟨zs, e6 _ _ hzs, ?_, (fun b' o z => ?_), zs ++ [v], upd_same, ?_⟩
        · have h1 := Paired.length pzs
          have h2 := bound (i + 1)
          rw [tk, List.flatMap_append, List.length_append] at h2
          rw [List.length_append, List.length_map, List.length_take] at h1
          simp only [List.flatMap_cons, List.flatMap_nil, List.append_nil, List.length_map] at h2
          exact sz_lt (by omega)
        · have nb : b' ≠ D := ne_of_none z hD
          exact (upd_ne nb).trans (e6 _ _ (exk _ _ z))
        · have kk : Kp D H6 (upd H6 D (.lst (zs ++ [v]))) := Kp.set (Kp.refl _ _)
          rw [tk', List.map_append, ← List.append_assoc]
          exact pr_app (Paired.mapP pzs fun _ _ z => hR _ _ _ _ D zs (e6 _ _ hzs) kk (hR _ _ _ _ D zs hzs (Kp.of e6) z)) (.cons (hR _ _ _ _ D zs (e6 _ _ hzs) kk r) .nil)
      · have ek : k = xs'.length := by omega
        subst ek
        refine .inl ⟨⟨xs', ex_t exk' hs', Nat.le_refl _⟩, exk, zs, hzs, ?_⟩
        rw [tk, List.flatMap_append]
        simp only [List.flatMap_cons, List.flatMap_nil, List.append_nil]
        rw [hlen', List.take_length] at pzs
        exact pzs
  · have ei : i = xs.length := by omega
    subst ei
    refine .inl ⟨⟨xs, ex_t ex' hs, Nat.le_refl _⟩, q D H' (fresh_back e1 hD) (e1.trans ex) ⟨D, ys, rfl, hys, ?_⟩⟩
    rw [hlen, List.take_length] at pys
    exact pys
end
end Way

/-! C(e, .., k = v, ..) where what __init__ raises is wished for at the caller's slots -/
namespace Way
open PySem PySem.Spec PyProof.Rows L2
def tMakeKS (C : Addr) (n m : Nat) (sp : Sp) (gV : List V → List V → List V) (E : L2.St → XK) (t tk : TA) : TE := fun σ H Q => t σ H fun vs H1 => tk σ H1 fun zs H2 => vs.length = n ∧ zs.length = m ∧ ∀ x dx, H2 x = none → H2 dx = none → dx ≠ x →
  sp (gV (.ref x :: vs) zs) (upd (upd H2 dx (.own x)) x (.ins C dx [])) (fun v H3 => v = .non ∧ Q (.ref x) H3) (E σ)
section
variable {X : Cx} {CX : CXT} {k n : Nat} {f C : Addr} {fd : FuncData} {ps ks : List Str} {sp : Sp} {E : L2.St → XK} {x : Str} {p pos : Pos} {e : Expr} {es : List Expr} {kws : List Keyword} {t tk : TA} {g : List Value → List Value → List Value} {gV : List V → List V → List V}
theorem run_makeKS {pins : List (Addr × Obj)} {σ : L2.St} {H : Hp} {s : Shared} {Q : VK} {us ws : List Value} {vs zs : List V} (M : Mk X.K C f) (F : FnOk X.prog X.w X.K X.mg X.base CX k f fd ps sp) (hr : Room (k + 1) X.A) (hb : KBn X.K fd ps (n + 1) ks g gV) (hx : PassesAt CX X σ (E σ))
    (I : Inv X pins σ H s) (r : Vals vs us) (rz : Vals zs ws) (l1 : vs.length = n) (l2 : zs.length = ks.length)
    (h : ∀ x dx, H x = none → H dx = none → dx ≠ x → sp (gV (.ref x :: vs) zs) (upd (upd H dx (.own x)) x (.ins C dx [])) (fun v H2 => v = .non ∧ Q (.ref x) H2) (E σ)) :
    wpAny (model X.prog X.w) X.A (call (.ref C) us (ks.zip ws)) (EP X pins σ Q) X.xe s := by
  have hne : s.heap.objs.size ≠ s.heap.objs.size + 1 := Nat.ne_of_lt (Nat.lt_succ_self _)
  have I2 := Inv.made (C := C) I
  have ra : Vals (V.ref (s.heap.objs.size + 1) :: vs) (Value.ref (s.heap.objs.size + 1) :: us) := .cons rfl r
  have na : (Value.ref (s.heap.objs.size + 1) :: us).length = n + 1 := by rw [List.length_cons, ← r.length, l1]
  refine wpAny_call (make_map (f := f) I.kIn M.makes M.init (beq_iff_eq.mp M.fn) (codeAny_mono (F.run _ X.stack _ _ ⟨Value.ref (s.heap.objs.size + 1) :: us, ks.zip ws⟩ _ _ _ (E σ) (hr.make C us (ks.zip ws)) (I2.env0.make C us (ks.zip ws))
    (hb.to _ _ ws I2.kIn na (rz.length.symm.trans l2)) (hb.rel ra rz) (h _ _ (I.hok.fresh (Nat.le_succ _)) (I.hok.fresh (Nat.le_refl _)) hne)) fun r s' hq => ?_))
  match r, hq with
  | .error e, hq => exact hx pins _ _ e s' I2 hq
  | .ok (.ret u), hq =>
    obtain ⟨v, H', I3, rv, ev, q3⟩ := I2.after hq
    subst ev
    exact ⟨rv, V.ref (s.heap.objs.size + 1), H', I3, rfl, q3⟩
  | .ok .next, hq => exact False.elim hq
  | .ok .brk, hq => exact False.elim hq
  | .ok .cont, hq => exact False.elim hq
theorem pe_makeKS (M : Mk X.K C f) (F : FnOk X.prog X.w X.K X.mg X.base CX k f fd ps sp) (hr : Room (k + 1) X.A) (hg : Gl X x) (hm : X.mg x = some (.ref C)) (hb : KBn X.K fd ps (n + 1) ks g gV) (hx : ∀ σ, PassesAt CX X σ (E σ)) (ha : PA X (e :: es) t) (hkw : PK X kws tk)
    (hall : (backToKw pos (keywordEach kws X.env)).all (·.1.isSome) = true := by rfl) (hks : (backToKw pos (keywordEach kws X.env)).filterMap (·.1) = ks := by rfl) (hdb : (x == ("__debug__" : Str)) = false := by decide)
    (he : starEach (e :: es) X.env = (false, eval e X.env) :: starEach es X.env := by rfl) (hpl : ((backTo pos (starEach (e :: es) X.env)).any (·.1) || (backToKw pos (keywordEach kws X.env)).any (·.1.isNone)) = false := by rfl) :
    PE X (.Call (.Name x p) (e :: es) kws pos) (tMakeKS C n ks.length sp gV E t tk) := by
  refine ⟨fun pins s σ H Q I h => ?_⟩
  refine wpAny_Call_Name_kw (ld_glob I hg hm ?_ hdb)
  refine PySem.W.callWith_KW (h₀ := X.base) I.ok.mod.kin M.kp hall (thn (ha.run pos pins s σ H _ I h) fun us s1 ⟨vs, H1, I1, r, q⟩ => ?_) hpl he
  refine thn (hkw.run pos pins s1 σ H1 _ I1 q) fun ws s2 ⟨zs, H2, I2, rz, l1, l2, q2⟩ => ⟨I2.kIn, ?_⟩
  rw [hks]
  exact run_makeKS M F hr hb (hx σ) I2 r rz l1 l2 q2
end
/-- C(e, ..), the rest by defaults -/
def tMakeSD (C : Addr) (sp : Sp) (dvs : List V) (E : L2.St → XK) (t : TA) : TE := fun σ H Q => t σ H fun vs H1 => ∀ x dx, H1 x = none → H1 dx = none → dx ≠ x →
  sp (.ref x :: vs ++ dvs) (upd (upd H1 dx (.own x)) x (.ins C dx [])) (fun v H2 => v = .non ∧ Q (.ref x) H2) (E σ)
section
variable {X : Cx} {CX : CXT} {k : Nat} {f C : Addr} {fd : FuncData} {ps : List Str} {sp : Sp} {dvs : List V} {ds : List Value} {E : L2.St → XK} {x : Str} {p pos : Pos} {e : Expr} {es : List Expr} {t : TA}
theorem pe_makeSD (M : Mk X.K C f) (F : FnOk X.prog X.w X.K X.mg X.base CX k f fd ps sp) (hr : Room (k + 1) X.A) (hg : Gl X x) (hm : X.mg x = some (.ref C)) (hb : Binds X.K fd ps ds) (hd : Vals dvs ds) (hx : ∀ σ, PassesAt CX X σ (E σ)) (ha : PA X (e :: es) t)
    (hdb : (x == ("__debug__" : Str)) = false := by decide) (he : starEach (e :: es) X.env = (false, eval e X.env) :: starEach es X.env := by rfl) (hpl : (backTo pos (starEach es X.env)).any (·.1) = false := by rfl) :
    PE X (.Call (.Name x p) (e :: es) [] pos) (tMakeSD C sp dvs E t) := by
  refine ⟨fun pins s σ H Q I h => ?_⟩
  refine wpAny_Call_Name_kw (ld_glob I hg hm ?_ hdb)
  refine PySem.W.callWith_K (h₀ := X.base) I.ok.mod.kin M.kp (thn (ha.run pos pins s σ H _ I h) fun us s1 ⟨vs, H1, I1, r, q⟩ => ⟨I1.kIn, ?_⟩) he hpl
  have hne : s1.heap.objs.size ≠ s1.heap.objs.size + 1 := Nat.ne_of_lt (Nat.lt_succ_self _)
  have I2 := Inv.made (C := C) I1
  have ra : Vals (V.ref (s1.heap.objs.size + 1) :: vs ++ dvs) (Value.ref (s1.heap.objs.size + 1) :: us ++ ds) := Vals.append (.cons rfl r) hd
  have hq := q _ _ (I1.hok.fresh (Nat.le_succ _)) (I1.hok.fresh (Nat.le_refl _)) hne
  refine wpAny_call (make_map (f := f) I1.kIn M.makes M.init (beq_iff_eq.mp M.fn) (codeAny_mono (F.run _ X.stack _ _ ⟨Value.ref (s1.heap.objs.size + 1) :: us, []⟩ _ _ _ (E σ) (hr.make C us []) (I2.env0.make C us [])
    (hb _ (Value.ref (s1.heap.objs.size + 1) :: us) I2.kIn (by rw [← F.len _ _ _ _ hq]; exact ra.length.symm)) ra hq) fun r s' hq' => ?_))
  match r, hq' with
  | .error e, hq => exact hx σ pins _ _ e s' I2 hq
  | .ok (.ret u), hq =>
    obtain ⟨v, H', I3, rv, ev, q3⟩ := I2.after hq
    subst ev
    exact ⟨rv, V.ref (s1.heap.objs.size + 1), H', I3, rfl, q3⟩
  | .ok .next, hq => exact False.elim hq
  | .ok .brk, hq => exact False.elim hq
  | .ok .cont, hq => exact False.elim hq
end
end Way

/-! len(set(texts)) -/
namespace Way
open PySem PySem.Spec PyProof.Rows L2
/-- how many of the first i are met for the first time -/
def dn (xs : List Str) : Nat → Nat
  | 0 => 0
  | i + 1 => if (xs.take i).any (· == xs.getD i Str.empty) then dn xs i else dn xs i + 1
theorem dn_le (xs : List Str) : ∀ i, dn xs i ≤ i
  | 0 => Nat.le_refl _
  | i + 1 => by
    have := dn_le xs i
    unfold dn
    split <;> omega
theorem take_any (xs : List Str) {i : Nat} (hi : i < xs.length) (k : Str) : (xs.take (i + 1)).any (· == k) = ((xs.take i).any (· == k) || decide (k = xs.getD i Str.empty)) := by
  have e1 : xs.take (i + 1) = xs.take i ++ [xs[i]] := by rw [List.take_add_one, List.getElem?_eq_getElem hi]; rfl
  have e2 : xs.getD i Str.empty = xs[i] := by rw [List.getD_eq_getElem?_getD, List.getElem?_eq_getElem hi]; rfl
  rw [e1, e2, List.any_append]
  congr 1
  show ((xs[i] == k) || false) = decide (k = xs[i])
  rw [Bool.or_false]
  by_cases h : k = xs[i]
  · rw [decide_eq_true h, h]; exact beq_self_eq_true _
  · rw [decide_eq_false h]; exact beq_eq_false_iff_ne.mpr fun q => h q.symm
section
variable {prog : Program} {w : World} {A : Around} {R : Result → Shared → Prop} {I : Addr} {fp wr : List Addr} {G : Array GenState → Array GenState → Prop} {n : Nat} {P : Nat → Value → Prop} {St : Nat → Shared → Prop}
/-- the set at S holds the first i of xs -/
def HoldsS (prog : Program) (w : World) (S : Addr) (xs : List Str) (i : Nat) (h : Heap) : Prop := h.SetOf (PySem.strKind prog w) S (fun k => (xs.take i).any (· == k)) (dn xs i)
theorem HoldsS.at {S : Addr} {xs : List Str} {i : Nat} {h h' : Heap} (x : HoldsS prog w S xs i h) (k : ∀ o, h.get? S = some o → h'.get? S = some o) : HoldsS prog w S xs i h' := by
  obtain ⟨o, es, ep, t, ho, rest⟩ := x
  exact ⟨o, es, ep, t, k _ ho, rest⟩
theorem loopT (W : WalksS prog w A.in1 I fp wr G n P St) (S : Addr) (hSf : S ∉ fp) (xs : List Str) (hsz : xs.length = n) (hn : n ≤ 4000) (hval : ∀ i v, P i v → ∃ t, v = .str (xs.getD i Str.empty) t) :
    ∀ (k i : Nat) (s : Shared), n - i = k → i ≤ n → St i s → HoldsS prog w S xs i s.heap → (∀ s', Moved (S :: wr) G s s' → HoldsS prog w S xs n s'.heap → R (.ok (.ret .none)) s') →
      codeAny (model prog w) A (.builtin "set.update.loop" ⟨[.ref S, .ref I], []⟩) R s := by
  have hSw : S ∉ wr := fun h => hSf (W.sub _ h)
  have hup : ∀ b ∈ wr, b ∈ S :: wr := fun b hb => List.mem_cons_of_mem _ hb
  intro k
  induction k with
  | zero =>
    intro i s hk hi hst hS hR
    obtain rfl : i = n := by omega
    refine codeAny_builtin PyProof.Rows.F.entry_set_update_loop ?_
    rw [Around.under_plainId PyProof.Rows.F.plain_set_update_loop _]
    show wpAny _ A.in1 (pyNext (.ref I) >>= _) _ _ s
    refine wpAny_bind (W.done s _ _ hst fun s' hm => ?_)
    show wpAny _ A.in1 (ret Value.none) _ _ s'
    exact wpAny_pure (hR s' (hm.mono hup) (hS.at fun o e => hm.heap S o hSw e))
  | succ k ih =>
    intro i s hk hi hst hS hR
    have hlt : i < n := by omega
    refine codeAny_builtin PyProof.Rows.F.entry_set_update_loop ?_
    rw [Around.under_plainId PyProof.Rows.F.plain_set_update_loop _]
    show wpAny _ A.in1 (pyNext (.ref I) >>= _) _ _ s
    refine wpAny_bind (W.item i s _ _ hlt hst fun v s' hP hst' hm => ?_)
    obtain ⟨t, rfl⟩ := hval i v hP
    have hS' := hS.at (h' := s'.heap) fun o e => hm.heap S o hSw e
    show wpAny _ A.in1 (holding [Value.str (xs.getD i Str.empty) t] (setAdd S (.str (xs.getD i Str.empty) t)) >>= _) _ _ s'
    refine wpAny_bind (wpAny_holding ?_)
    unfold setAdd
    refine wpAny_holding ?_
    refine wpAny_bind ((PySem.strKind prog w).pyHash (k := xs.getD i Str.empty) (strKind_is _ _ _ _) ?_)
    refine wpAny_setAddHashed_of (knd := PySem.strKind prog w) (s := { s' with toks := s'.toks + 1 }) (strKind_is _ _ _ _) rfl hS' (by have := dn_le xs i; unfold scanBound; omega) fun h' hsb hS2 => ?_
    have hSi : HoldsS prog w S xs (i + 1) h' := by
      refine SetOf_congr hS2 (fun k' => (take_any xs (by omega) k').symm) ?_
      first
        | rfl
        | (show _ = if _ then _ else _; rfl)
    have hb : ∀ b, b ≠ S → h'.get? b = s'.heap.get? b := fun b h => hsb.2 b h
    refine wpAny_pure ⟨plainId_quiet PyProof.Rows.F.plain_set_update_loop _, ih (i + 1) _ (by omega) hlt (W.frame _ s' _ _ hst' (Nat.le_succ _) fun b hb' o e => ?_) hSi fun s'' hm'' hS'' => ?_⟩
    · exact (hb b fun z => hSf (z ▸ hb')).trans e
    · exact hR s'' (Moved.trans W.gtrans ((hm.mono hup).then_heap (Nat.le_succ _) fun b o hb' e => (hb b fun z => hb' (z ▸ List.mem_cons_self)).trans e) hm'') hS''
end
section
variable {prog : Program} {w : World} {A : Around} {E : Value → Shared → Prop} {s : Shared}
set_option maxHeartbeats 3200000 in
theorem call_setT {l : Addr} {items : Array Value} {xs : List Str} {Q : Value → Shared → Prop} (hh : A.handled = none) (hl : s.heap.IsList l items) (hi : PyProof.Rows.StrsAre items.toList xs) (hn : items.size ≤ 4000)
    (h : ∀ (h' : Heap) (tk : Nat), HoldsS prog w s.heap.objs.size xs items.size h' → (∀ b o, b < s.heap.objs.size → s.heap.get? b = some o → h'.get? b = some o) → Q (.ref s.heap.objs.size) { s with heap := h', toks := tk }) :
    wpAny (model prog w) A (call (.type "set") [.ref l]) Q E s := by
  obtain ⟨c, tl, hmro⟩ := PySem.F.called_set.mro
  have hmade := PySem.F.called_set.made
  have hsub := PySem.F.called_set.sub
  refine wpAny_call (codeAny_of_tree ?_)
  show wpAny _ _ (callAny (.type "set") _) _ _ _
  refine wpAny_pure ⟨Code.quiet_builtin _ (by decide +kernel), codeAny_builtin PySem.F.entry_type_call ?_⟩
  rw [Around.under_plain (weight_type_call_type "set" [.ref l] []) rfl]
  have h1 := PySem.F.called_set.notType
  have h2 := PySem.F.called_set.canCreate
  have hct := PySem.F.typeCall_set_1 (.ref l)
  repeat (any_goals (first | assumption | wp_step))
  let N : Bool → Heap := fun led => s.heap.push { cls := .type "set", dict := none, data := .set #[] 0 (.fresh 0 0 led) }
  refine codeAny_mono (code_set_new_1 (.ref l) (E := E) (Q₁ := fun obj s₁ => ∃ led : Bool, obj = .ref s.heap.objs.size ∧ s₁ = { s with heap := N led }) fun led => ⟨led, rfl, rfl⟩) fun r s₁ hr => ?_
  match r, hr with
  | .error e, hr => exact hr
  | .ok .next, hr => exact hr.elim
  | .ok .brk, hr => exact hr.elim
  | .ok .cont, hr => exact hr.elim
  | .ok (.ret obj), ⟨led, e1, e2⟩ =>
    subst e1 e2
    have hS : (N led).get? s.heap.objs.size = some { cls := .type "set", dict := none, data := .set #[] 0 (.fresh 0 0 led) } := Heap.get?_push_size _ rfl
    have hT : Shared.TypeIs { s with heap := N led } (.ref s.heap.objs.size) "set" := ⟨_, hS, rfl⟩
    have hz : (N led).objs.size = s.heap.objs.size + 1 := Heap.size_push ..
    have hli := PySem.F.called_set.init.lookup
    have hbi := PySem.F.called_set.init.bind (.ref s.heap.objs.size)
    repeat (any_goals (first | assumption | wp_step))
    refine codeAny_mono (codeAny_call_builtin (R := wants (fun r s₂ => r = .none ∧ ∃ h' tk, s₂ = { s with heap := h', toks := tk } ∧ HoldsS prog w s.heap.objs.size xs items.size h' ∧
        (∀ b o, b < s.heap.objs.size → s.heap.get? b = some o → h'.get? b = some o)) E) PySem.F.called_set.init.plain PySem.F.entry_set_init (check_set_init_1 hT ?_)) fun r₂ s₂ hr₂ => ?_
    · obtain ⟨⟨ocls, odict, odata, oslots⟩, hol, hcl, nl, hdl⟩ := hl
      simp only at hcl hdl
      subst hcl hdl
      have hlS : l < s.heap.objs.size := Heap.lt_size hol
      have hol' : (N led).get? l = some { cls := .type "list", dict := odict, data := .seq items nl, slots := oslots } := Heap.get?_push_of_some _ hol
      have hsls := PySem.F.sub_list_set
      have hslf := PySem.F.sub_list_frozenset
      have hne : (Value.type "list" == Value.type "dict") = false := by decide
      have hl1 : (N led).IsList l items := ⟨_, hol', rfl, nl, rfl⟩
      unfold Builtin.«set.__init__» noKeywords Builtin.Frozenset.updateFrom
      generalize hPI : pyIter = PI
      wp_walk
      subst hPI
      refine wpAny_pyIter_list hl1 ?_
      refine wpAny_bind (wpAny_runValue ?_)
      have hh3 : A.in1.in1.in1.handled = none := by simp [hh]
      have hneI : l ≠ (N led).objs.size := by rw [hz]; exact Nat.ne_of_lt (Nat.lt_succ_of_lt hlS)
      have hSf : s.heap.objs.size ∉ [(N led).objs.size, l] := by
        rw [hz]; simp only [List.mem_cons, List.mem_singleton, List.not_mem_nil, or_false, not_or]
        exact ⟨Nat.ne_of_lt (Nat.lt_succ_self _), Nat.ne_of_gt hlS⟩
      have hsz : xs.length = items.size := by rw [← StrsAre.len_eq hi, Array.length_toList]
      refine loopT ((Walks.list hh3 _ l hneI items).toS) s.heap.objs.size hSf xs hsz hn (fun i v hv => SS.strs_at hi i v (by rw [Array.getElem?_toList]; exact hv)) (items.size - 0) 0 _ (by omega) (Nat.zero_le _) ⟨⟨_, Heap.get?_push_size _ rfl, rfl, rfl⟩, (hl1.push _)⟩ ?hS0 ?hR
      case hS0 =>
        have hget : ((N led).push { cls := .type "list_iterator", data := .fields #[.ref l, .int 0 0] }).get? s.heap.objs.size = some { cls := .type "set", dict := none, data := .set #[] 0 (.fresh 0 0 led) } := Heap.get?_push_of_some _ hS
        exact PyProof.Rows.SetOf_congr ((PyProof.Rows.setObjOf_fresh (knd := PySem.strKind prog w) led).setOf hget (by unfold scanBound; omega)) (fun _ => rfl) rfl
      case hR =>
        intro s' hm hS'
        obtain ⟨h', g', d', tk', os'⟩ := s'
        obtain rfl : g' = s.gens := hm.gens
        obtain rfl : d' = s.drawn := hm.drawn
        obtain rfl : os' = s.os := hm.os
        show wpAny _ _ _ _ _ _
        refine wpAny_pure ?_
        show wpAny _ _ (ret Value.none) _ _ _
        refine wpAny_pure ⟨rfl, h', tk', rfl, hS', fun b o hb e => ?_⟩
        refine hm.heap b o ?_ (Heap.get?_push_of_some _ (Heap.get?_push_of_some _ e))
        rw [hz]
        simp only [List.mem_cons, List.mem_singleton, List.not_mem_nil, or_false, not_or]
        exact ⟨Nat.ne_of_lt hb, Nat.ne_of_lt (Nat.lt_succ_of_lt hb)⟩
    · match r₂, hr₂ with
      | .error e, hr => exact hr
      | .ok .next, hr => exact hr.elim
      | .ok .brk, hr => exact hr.elim
      | .ok .cont, hr => exact hr.elim
      | .ok (.ret r), ⟨e1, h', tk, e2, hS', hk'⟩ =>
        subst e1 e2
        repeat (any_goals (first | assumption | wp_step))
        exact h _ _ hS' hk'
end
def tLenSetT (K : PySem.W.Frag) (ta : TE) : TE := fun σ H Q => ta σ H fun x H1 => ∃ (l : Addr) (xs : List Str), x = .ref l ∧ SqL K H1 l (xs.map V.str) ∧ xs.length ≤ 4000 ∧ Q (.int (dn xs xs.length : Nat)) H1
theorem pe_lenSetT {X : Cx} {a : Expr} {ta : TE} {p p2 q pos : Pos} (hc : X.calm = true) (hg : Gl X "len") (hm : X.mg "len" = none) (hg2 : Gl X "set") (hm2 : X.mg "set" = none) (ha : PE X a ta)
    (na : starEach [a] X.env = (false, eval a X.env) :: starEach [] X.env := by rfl) : PE X (.Call (.Name "len" p) [.Call (.Name "set" p2) [a] [] q] [] pos) (tLenSetT X.K ta) := by
  refine ⟨fun pins s σ H Q I h => ?_⟩
  refine Call_ (ld_blt I hg hm boot_len ?_)
  refine PyProof.Rows.callWith_builtin1 (PyProof.Rows.args_cons ?_ rfl) rfl rfl
  refine Call_ (ld_blt I hg2 hm2 boot_set ?_)
  refine PyProof.Rows.callWith_type1 (PyProof.Rows.args_cons (thn (ha.run pins s σ H _ I h) fun v s1 ⟨x, H1, I1, r1, l, xs, ex, hq, h1, q1⟩ => PyProof.Rows.args_nil ?_) na) na rfl
  subst ex
  cases r1
  obtain ⟨its, r, pl, hz⟩ := I1.list hq
  have hl : its.toArray.size = xs.length := by rw [List.size_toArray, ← r.length, List.length_map]
  refine call_setT (I1.ok.hd hc) pl.isList (by simpa using strsAre_of r) (by omega) fun h' tk hS hk => PyProof.Rows.args_nil ?_
  rw [hl] at hS
  obtain ⟨o, es, ep, t, ho, hex, hd, _, _, _, hf, hn⟩ := hS
  have I2 : Inv X pins σ H1 { s1 with heap := h', toks := tk } := I1.kept fun b o e => hk b o (Heap.lt_size e) e
  have hdn := dn_le xs xs.length
  refine call_len_set ho hex hd hf (by rw [hn]; unfold scanBound at *; omega) ⟨.int (dn xs xs.length : Nat), H1, I2.tok _, ⟨_, by rw [hn]⟩, q1⟩
/-! l.count(text) -/
def eqs (k : Str) : Value → Bool
  | .str y _ => y == k
  | _ => false
def rCntS (K : PySem.W.Frag) : V → List V → Hp → VK → Prop := fun x xs H Q => ∃ (p : Addr) (ns : List Str) (k : Str), x = .ref p ∧ xs = [.str k] ∧ SqL K H p (ns.map V.str) ∧ Q (.int (ns.count k : Nat)) H
end Way

/-! values of any plain kind, told as data -/
namespace Way
open PySem PySem.Spec PyProof.Rows L2 Evl
theorem eqs_gives {k : Str} {t : Tok} : ∀ {us : List Value} {ns : List Str}, StrsAre us ns → ∀ y ∈ us, MeetsSeq.EqGives y (.str k t) (eqs k y)
  | _, _, .nil => fun y hy => by cases hy
  | _, _, .cons n t' h => fun y hy => by
    rcases List.mem_cons.mp hy with e | e
    · rw [e]
      have z := SeqRoads2.EqGives.str n k t' t
      rw [SeqAt.str_beq] at z
      exact z
    · exact eqs_gives h y e
theorem eqs_count {k : Str} : ∀ {us : List Value} {ns : List Str}, StrsAre us ns → us.countP (eqs k) = ns.count k
  | _, _, .nil => rfl
  | _, _, .cons n t h => by
    have ih := eqs_count (k := k) h
    rw [List.countP_cons, List.count_cons, ih] <;> rfl
theorem mt_cntS {X : Cx} : MtR X "list.count" (rCntS X.K) := by
  intro pins s σ H x xs v us Q I rx rxs h
  obtain ⟨p, ns, k, rfl, rfl, hs, q⟩ := h
  cases rx
  obtain ⟨u, rfl, ru⟩ := rxs.one
  obtain ⟨t, rfl⟩ := ru
  obtain ⟨its, rv, ⟨⟨cls, dd, data, sl⟩, n, ho, hc, hdn, hd⟩, hlen⟩ := I.list hs
  simp only at hc hd
  subst hc hd
  have hi := strs_of_vals rv
  refine call_meets PySem.F.slot_list_count ⟨_, ho, rfl⟩ PySem.F.entry_list_count (PySem.F.args_list_count_2 _ _)
    (SeqAt.list_countAt p its.toArray n dd sl (.str k t) (eqs k)) ⟨ho, fun y hy => (eqs_gives hi y (by simpa using hy)).at _ _, ?_⟩
  have ec : its.toArray.toList.countP (eqs k) = ns.count k := eqs_count hi
  refine ⟨.int (ns.count k : Nat), H, I.tok _, ⟨s.toks, ?_⟩, q⟩
  show Value.int ((its.toArray.toList.countP (eqs k) : Nat) : Int) s.toks = Value.int ((ns.count k : Nat) : Int) s.toks
  rw [ec]
/-! what repr shows -/
inductive Shn (K : PySem.W.Frag) (H : Hp) : V → PyData → Prop
  | dp {v : V} {d : PyData} (h : Dp K H v d) (n : d.hasDict = false) : Shn K H v d
  | emp {a : Addr} (h : H a = some (.dK [])) : Shn K H (.ref a) (.dict [])
  | bad {a b : Addr} {x : Str} (h : H a = some (.tup [.str x, .ref b])) (e : H b = some (.dK [])) : Shn K H (.ref a) (.tuple [.str x, .dict []])
theorem Shn.mono {K : PySem.W.Frag} {H H' : Hp} {v : V} {d : PyData} (dm : Dp K H v d → Dp K H' v d) (e : Ex H H') (h : Shn K H v d) : Shn K H' v d := by
  cases h with
  | dp h n => exact .dp (dm h) n
  | emp h => exact .emp (e _ _ h)
  | bad h q => exact .bad (e _ _ h) (e _ _ q)
theorem emp_reads {X : Cx} {pins : List (Addr × Obj)} {σ : L2.St} {H : Hp} {s : Shared} {a : Addr} (I : Inv X pins σ H s) (h : H a = some (.dK [])) : Reads s.heap (.ref a) (.dict []) [a] ∧ sysModules ∉ [a] := by
  obtain ⟨_, hn, vs, kv, o, es, ep, e1, e2, e3, _, e4, _⟩ := dk_of I.hok h
  cases kv
  have e5 : es.toList = [] := by
    generalize es.toList = l at e4
    cases e4
    rfl
  refine ⟨Reads.dict (as := []) (bs := []) e1 e2.1 e3 (by rw [e5]; exact ReadsAll.nil) (by rw [e5]; exact ReadsAll.nil), fun z => ?_⟩
  have z' : sysModules = a := by simpa using z
  rw [← z'] at hn
  simp at hn
section
variable {X : Cx} {k : Nat}
def rReprQ (K : PySem.W.Frag) : List V → Hp → VK → Prop := fun xs H Q => ∃ v d, xs = [v] ∧ Shn K H v d ∧ d.showable = true ∧ d.depth ≤ 60 ∧ d.shown.length ≤ sizeLine ∧ Q (.str d.shown) H
theorem call_reprU (hgd : X.A.guards = some []) (hun : X.A.units + 64 < cLine) : CallR X (.builtin "repr") (rReprQ X.K) := by
  intro pins s σ H xs us Q I r h
  obtain ⟨v, d, rfl, hd, hs, hdp, hsz, q⟩ := h
  obtain ⟨u, rfl, rx⟩ := vals1 r
  have deep : ∀ {a : Addr} {as : List Addr}, Reads s.heap (.ref a) d as → (d.hasDict = true → sysModules ∉ as) → wpAny (model X.prog X.w) X.A (call (.builtin "repr") [.ref a]) (EP X pins σ Q) X.xe s := fun {a as} rd hm =>
    repr_of_reads' rd hs hm hgd (by omega) (fun _ _ q => q) (fun h' u tk kp => ⟨.str d.shown, H, I.kept (t' := tk) kp, ⟨_, rfl⟩, q⟩) hsz
  cases hd with
  | emp h =>
    cases rx
    obtain ⟨r1, r2⟩ := emp_reads I h
    exact deep r1 fun _ => r2
  | @bad a b x h e =>
    cases rx
    obtain ⟨r1, r2⟩ := emp_reads I e
    obtain ⟨_, its, rv, o, h1, h2, n, h3⟩ := (show ObjOk X.prog X.w H s.heap a (.tup [.str x, .ref b]) from I.hok a _ h)
    cases rv with
    | cons ra rv =>
      cases rv with
      | cons rb rv =>
        cases rv
        obtain ⟨t, rfl⟩ := ra
        cases rb
        exact deep (Reads.tuple (as := [] ++ ([b] ++ [])) h1 h2 h3 (ReadsAll.cons (Reads.str x t) (ReadsAll.cons r1 ReadsAll.nil))) fun _ => by simpa using r2
  | dp hd hn =>
    cases hd with
    | non =>
      cases rx
      refine P.repr_of_none ?_
      exact ⟨.str "None", H, I.tok _, ⟨_, rfl⟩, by simpa only [PyData.shown] using q⟩
    | bl b =>
      cases rx
      refine P.repr_of_bool ?_
      exact ⟨.str (if b then "True" else "False"), H, I.tok _, ⟨_, rfl⟩, by simpa only [PyData.shown] using q⟩
    | int i =>
      obtain ⟨t, rfl⟩ := rx
      refine P.repr_of_int (by simpa [PyData.showable] using hs) ?_
      exact ⟨.str (Str.ofString (toString i)), H, I.tok _, ⟨_, rfl⟩, by simpa only [PyData.shown] using q⟩
    | str x =>
      obtain ⟨t, rfl⟩ := rx
      refine P.repr_of_str ?_ (by simpa only [PyData.shown] using hsz)
      exact ⟨.str (reprText x), H, I.tok _, ⟨_, rfl⟩, by simpa only [PyData.shown] using q⟩
    | lst h1 h2 =>
      obtain ⟨as, rd⟩ := Dp.reads I _ _ u (.lst h1 h2) rx
      cases rx
      exact deep rd (PyData.noDict_hsm hn)
    | tup h1 h2 =>
      obtain ⟨as, rd⟩ := Dp.reads I _ _ u (.tup h1 h2) rx
      cases rx
      exact deep rd (PyData.noDict_hsm hn)
theorem call_reprQ (hgd : X.A.guards = some []) (hr : Room k X.A) : CallR X (.builtin "repr") (rReprQ X.K) := call_reprU hgd hr.units
end
/-! plain values -/
def plC (c : Nat) : Bool := (decide (97 ≤ c) && decide (c ≤ 122)) || (decide (65 ≤ c) && decide (c ≤ 90)) || (decide (48 ≤ c) && decide (c ≤ 57)) || c == 32
def plS (x : Str) : Bool := x.cps.toList.all plC && decide (x.cps.size ≤ 20)
def plA : PyData → Bool
  | .none => true
  | .bool _ => true
  | .int i => decide (i.natAbs.log2 < 200)
  | .str x => plS x
  | _ => false
def plE : PyData → Bool
  | .list [] => true
  | d => plA d
def pl : PyData → Bool
  | .list ds => decide (ds.length ≤ 3) && ds.all plE
  | .tuple ds => decide (ds.length ≤ 3) && ds.all plE
  | d => plA d
/-- v is the plain value d -/
inductive PV (K : PySem.W.Frag) (H : Hp) : V → PyData → Prop
  | dp {v : V} {d : PyData} (h : Dp K H v d) (p : pl d = true) : PV K H v d
  | emp {a : Addr} (h : H a = some (.dK [])) : PV K H (.ref a) (.dict [])
def tyD : PyData → String
  | .none => "NoneType"
  | .bool _ => "bool"
  | .int _ => "int"
  | .str _ => "str"
  | .list _ => "list"
  | .tuple _ => "tuple"
  | .dict _ => "dict"
def isStr : PyData → Bool
  | .str _ => true
  | _ => false
def isBool : PyData → Bool
  | .bool _ => true
  | _ => false
def isInt : PyData → Bool
  | .int _ => true
  | _ => false
def isSq : PyData → Bool
  | .list _ => true
  | .tuple _ => true
  | _ => false
def isLs : PyData → Bool
  | .list _ => true
  | _ => false
section
variable {K : PySem.W.Frag} {H H' : Hp} {v : V} {d : PyData}
theorem ty_sqL {a : Addr} {xs : List V} (h : SqL K H a xs) : TyX K H (.ref a) (.type "list") := by
  rcases h with (h | ⟨o, h⟩) | ⟨o, its, n, h1, h2, _⟩
  · exact .base (.lst h)
  · exact .base (.frz h)
  · exact .kList h1 h2
theorem ty_sqT {a : Addr} {xs : List V} (h : SqT K H a xs) : TyX K H (.ref a) (.type "tuple") := by
  rcases h with (h | ⟨o, h⟩) | ⟨o, its, n, h1, h2, _⟩
  · exact .base (.tup h)
  · exact .fTuple h
  · exact .kTuple h1 h2
theorem PV.ty (h : PV K H v d) : TyX K H v (.type (tyD d)) := by
  cases h with
  | emp h => exact .base (.dK h)
  | dp h p =>
    cases h with
    | non => exact .base .non
    | bl b => exact .base (.bl b)
    | int i => exact .base (.int i)
    | str x => exact .base (.str x)
    | lst h1 h2 => exact ty_sqL h1
    | tup h1 h2 => exact ty_sqT h1
/-- what a change must keep -/
structure Kps (K : PySem.W.Frag) (H H' : Hp) : Prop where
  l : ∀ a xs, xs.length ≤ 3 → SqL K H a xs → SqL K H' a xs
  t : ∀ a xs, SqT K H a xs → SqT K H' a xs
  e : ∀ a, H a = some (.dK []) → H' a = some (.dK [])
theorem dpA_keep (p : plA d = true) (h : Dp K H v d) : Dp K H' v d := by
  cases h with
  | non => exact .non
  | bl b => exact .bl b
  | int i => exact .int i
  | str x => exact .str x
  | lst h1 h2 => simp [plA] at p
  | tup h1 h2 => simp [plA] at p
theorem dpE_keep (k : Kps K H H') (p : plE d = true) (h : Dp K H v d) : Dp K H' v d := by
  cases h with
  | non => exact .non
  | bl b => exact .bl b
  | int i => exact .int i
  | str x => exact .str x
  | tup h1 h2 => simp [plE, plA] at p
  | lst h1 h2 =>
    cases h2 with
    | nil => exact .lst (k.l _ _ (by simp) h1) .nil
    | cons a b => simp [plE, plA] at p
theorem dpAll_keep (k : Kps K H H') : ∀ {vs : List V} {ds : List PyData}, ds.all plE = true → DpAll K H vs ds → DpAll K H' vs ds
  | _, _, _, .nil => .nil
  | _, _, p, .cons a r => by
    rw [List.all_cons, Bool.and_eq_true] at p
    exact .cons (dpE_keep k p.1 a) (dpAll_keep k p.2 r)
theorem dpAll_len : ∀ {vs : List V} {ds : List PyData}, DpAll K H vs ds → vs.length = ds.length
  | _, _, .nil => rfl
  | _, _, .cons _ r => by rw [List.length_cons, List.length_cons, dpAll_len r]
theorem PV.keep (k : Kps K H H') (h : PV K H v d) : PV K H' v d := by
  cases h with
  | emp h => exact .emp (k.e _ h)
  | dp h p =>
    refine .dp ?_ p
    cases h with
    | non => exact .non
    | bl b => exact .bl b
    | int i => exact .int i
    | str x => exact .str x
    | lst h1 h2 =>
      simp only [pl, Bool.and_eq_true, decide_eq_true_eq] at p
      exact .lst (k.l _ _ (by rw [dpAll_len h2]; exact p.1) h1) (dpAll_keep k p.2 h2)
    | tup h1 h2 =>
      simp only [pl, Bool.and_eq_true, decide_eq_true_eq] at p
      exact .tup (k.t _ _ h1) (dpAll_keep k p.2 h2)
theorem Kps.of (e : Ex H H') : Kps K H H' := ⟨fun _ _ _ h => ex_l e h, fun _ _ h => ex_t e h, fun _ h => e _ _ h⟩
theorem PV.mono (e : Ex H H') (h : PV K H v d) : PV K H' v d := h.keep (.of e)
/-- at s stands nothing that a plain value holds -/
structure Off (H : Hp) (s : Addr) : Prop where
  l : ∀ xs, H s = some (.lst xs) → 3 < xs.length
  t : ∀ xs, H s ≠ some (.tup xs)
  f : ∀ o u, H s ≠ some (.frz o u)
  e : H s ≠ some (.dK [])
theorem Kps.kp {s : Addr} (o : Off H s) (k : Kp s H H') : Kps K H H' := by
  refine ⟨fun a xs hl h => ?_, fun a xs h => ?_, fun a h => ?_⟩
  · rcases h with (h | ⟨ob, h⟩) | h
    · exact .inl (.inl (k _ _ (fun z => by rw [z] at h; have := o.l _ h; omega) h))
    · exact .inl (.inr ⟨ob, k _ _ (fun z => by rw [z] at h; exact o.f _ _ h) h⟩)
    · exact .inr h
  · rcases h with (h | ⟨ob, h⟩) | h
    · exact .inl (.inl (k _ _ (fun z => by rw [z] at h; exact o.t _ h) h))
    · exact .inl (.inr ⟨ob, k _ _ (fun z => by rw [z] at h; exact o.f _ _ h) h⟩)
    · exact .inr h
  · exact k _ _ (fun z => by rw [z] at h; exact o.e h) h
theorem off_pen {s : Addr} {kv : Key × V} {kvs : List (Key × V)} (h : H s = some (.dK (kv :: kvs))) : Off H s :=
  ⟨(fun xs q => by rw [h] at q; cases q), (fun xs q => by rw [h] at q; cases q), (fun o u q => by rw [h] at q; cases q), (fun q => by rw [h] at q; cases q)⟩
theorem off_lst {s : Addr} {xs : List V} (h : H s = some (.lst xs)) (l : 3 < xs.length) : Off H s :=
  ⟨(fun ys q => by rw [h] at q; cases q; exact l), (fun xs q => by rw [h] at q; cases q), (fun o u q => by rw [h] at q; cases q), (fun q => by rw [h] at q; cases q)⟩
theorem off_ins {s C dx : Addr} {fs : List (Str × V)} (h : H s = some (.ins C dx fs)) : Off H s :=
  ⟨(fun ys q => by rw [h] at q; cases q), (fun xs q => by rw [h] at q; cases q), (fun o u q => by rw [h] at q; cases q), (fun q => by rw [h] at q; cases q)⟩
theorem PV.kp {s : Addr} (o : Off H s) (k : Kp s H H') (h : PV K H v d) : PV K H' v d := h.keep (.kp o k)
/-! isinstance -/
theorem kd_str : kitB (tyD d) "str" = some (isStr d) := by cases d <;> kernel_rfl
theorem kd_int : kitB (tyD d) "int" = some (isInt d || isBool d) := by cases d <;> kernel_rfl
theorem kd_bool : kitB (tyD d) "bool" = some (isBool d) := by cases d <;> kernel_rfl
theorem kd_list : kitB (tyD d) "list" = some (isLs d) := by cases d <;> kernel_rfl
theorem kd_tuple : kitB (tyD d) "tuple" = some (isSq d && !isLs d) := by cases d <;> kernel_rfl
variable {σ : L2.St} {te : TE} {T : String} {b : Bool}
theorem ev_isd (h : Ev te σ H v) (p : PV K H v d) (e : kitB (tyD d) T = some b) : Ev (tCB (rIsi K) (tCons te (tCons (tC (.ty T)) tNil))) σ H (.bl b) :=
  ev_cb (ea_cons h (ea_cons ev_c ea_nil)) (rc_isi (.ty T) (fun H1 e1 => (p.mono e1).ty) (kit_ty e))
/-- isinstance(x, (list, tuple)) -/
theorem ev_isLT {t : Value} (h : Ev te σ H v) (p : ∀ H1, Ex H H1 → TyX K H1 v t) (e : PySem.W.kitAny K t [.type "list", .type "tuple"] = some b) : Ev (tCB (rIsiT K) (tCons te (tCons (tTup (tCons (tC (.ty "list")) (tCons (tC (.ty "tuple")) tNil))) tNil))) σ H (.bl b) := fun H1 e1 Q q =>
  h H1 e1 _ fun H2 e2 => (eu_tup (ea_cons ev_c (ea_cons ev_c ea_nil)) (Nat.le_of_ble_eq_true rfl) : EvU _ σ H2 [.ty "list", .ty "tuple"]) H2 (Ex.refl H2) _ fun tp H3 _ e3 h3 =>
    ⟨v, tp, _, t, _, b, rfl, h3, .cons (.ty _) (.cons (.ty _) .nil), p H3 ((e1.trans e2).trans e3), e, q H3 (e2.trans e3)⟩
theorem kd_sq : PySem.W.kitAny K (.type (tyD d)) [.type "list", .type "tuple"] = some (isSq d) := by
  refine kitAny_cons (kit_ty kd_list) (fun h => kitAny_cons (kit_ty kd_tuple) (fun h2 => ?_) (fun h2 => ?_)) (fun h => ?_)
  · rw [kitAny_nil]
    cases d <;> simp_all [isSq, isLs]
  · cases d <;> simp_all [isSq, isLs]
  · cases d <;> simp_all [isSq, isLs]
theorem ev_isSq (h : Ev te σ H v) (p : PV K H v d) : Ev (tCB (rIsiT K) (tCons te (tCons (tTup (tCons (tC (.ty "list")) (tCons (tC (.ty "tuple")) tNil))) tNil))) σ H (.bl (isSq d)) := ev_isLT h (fun H1 e => (p.mono e).ty) kd_sq
/-! comparisons in a row -/
theorem ev_chain {r r' : R2} {ta tb tc : TE} {x y z : V} {a b : Bool} (h1 : Ev ta σ H x) (h2 : Ev tb σ H y) (h3 : Ev tc σ H z) (k : RV r x y H (.bl a)) (k' : RV r' y z H (.bl b)) : Ev (tChain r r' ta tb tc) σ H (.bl (a && b)) := fun H1 e Q q =>
  h1 H1 e _ fun H2 e2 => h2 H2 (e.trans e2) _ fun H3 e3 => k H3 ((e.trans e2).trans e3) _ fun H4 e4 => ⟨a, rfl, by
    cases a with
    | false => exact q H4 ((e2.trans e3).trans e4)
    | true =>
      have X4 := ((e.trans e2).trans e3).trans e4
      exact h3 H4 X4 _ fun H5 e5 => k' H5 (X4.trans e5) _ fun H6 e6 => q H6 ((((e2.trans e3).trans e4).trans e5).trans e6)⟩
/-! texts -/
theorem ev_lenX {x : Str} (h : Ev te σ H (.str x)) (hl : x.length ≤ 100000) : Ev (tCB (fun xs H Q => ∃ z : Str, xs = [V.str z] ∧ z.length ≤ sizeLine ∧ Q (.int z.length) H) (tCons te tNil)) σ H (.int x.length) :=
  ev_cb (ea_cons h ea_nil) fun H1 _ _ q => ⟨x, rfl, sz_of hl, q H1 (Ex.refl H1)⟩
theorem ev_slX {x : Str} {tl th : TO} {lo hi : Option Int} (h : Ev te σ H (.str x)) (h1 : EvO tl σ H lo) (h2 : EvO th σ H hi) (hl : x.length ≤ 100000) : Ev (tSl C8.rSlX te tl th) σ H (.str (Txt.slice x lo hi)) := fun H1 e Q q =>
  h H1 e _ fun H2 e2 => h1 H2 (e.trans e2) _ fun H3 e3 => h2 H3 ((e.trans e2).trans e3) _ fun H4 e4 => by
    show ∃ z, V.str x = .str z ∧ z.length ≤ sizeLine ∧ Q (.str (Txt.slice z lo hi)) H4
    exact ⟨x, rfl, sz_of hl, q H4 ((e2.trans e3).trans e4)⟩
theorem rv_sign {c : Nat} {z : Str} : RV (fun x y H Q => ∃ (c : Nat) (z : Str), x = V.str ⟨#[c]⟩ ∧ y = V.str z ∧ Q (.bl (decide (c ∈ z.cps.toList))) H) (.str ⟨#[c]⟩) (.str z) H (.bl (decide (c ∈ z.cps.toList))) := fun H1 _ _ q => ⟨c, z, rfl, rfl, q H1 (Ex.refl H1)⟩
theorem rv_signN {c : Nat} {z : Str} : RV (fun x y H Q => ∃ (c : Nat) (z : Str), x = V.str ⟨#[c]⟩ ∧ y = V.str z ∧ Q (.bl (!decide (c ∈ z.cps.toList))) H) (.str ⟨#[c]⟩) (.str z) H (.bl (!decide (c ∈ z.cps.toList))) := fun H1 _ _ q => ⟨c, z, rfl, rfl, q H1 (Ex.refl H1)⟩
/-- [e for c in text if t] -/
theorem el_lcX {x : Str} {tl : TE} {t : TT} {j : Nat} {vs : List Nat} (f : Nat → Bool) (w : Nat → V) (h : Ev tl σ H (.str x)) (hz : x.cps.size ≤ 40000) (hw : ∀ x, wipe ((wipe σ vs).set j (some x)) vs = wipe σ vs)
    (ht : ∀ (i c : Nat) H1, Ex H H1 → x.cps[i]? = some c → EvT t ((wipe σ vs).set j (some (.str ⟨#[c]⟩))) H1 (f i)) (he : ∀ (i c : Nat) H1, Ex H H1 → x.cps[i]? = some c → f i = true → Ev te ((wipe σ vs).set j (some (.str ⟨#[c]⟩))) H1 (w i)) :
    EvL (tLc (iStr tl) (gName j) t te vs) σ H (given x.cps.size f w) := fun H0 e Q q => h H0 e _ fun H1 e1 => ⟨x, rfl, fun Dl hD =>
  lc_it (walk_str (z := x)) (Cw H1 f w Dl) ⟨hD, Ex.new hD, upd_same⟩ (fun _ _ _ _ => True.intro) (fun i y H' H'' hi p yy => by
    obtain ⟨rfl, c, hc, rfl⟩ := yy
    exact ⟨hw _, cw_turn p (by omega) (ht i c H1 (e.trans e1) hc) (fun hf => he i c H1 (e.trans e1) hc hf)⟩)
    (fun H' p => q Dl H' (fresh_back e1 p.1) (e1.trans p.2.1) p.2.2)⟩
end
end Way

/-! a list or a tuple, walked -/
namespace Way
open PySem PySem.Spec PyProof.Rows L2 Evl
def iSq (K : PySem.W.Frag) (tl : TE) : TI := fun σ H R => tl σ H fun x H1 => ∃ a, x = .ref a ∧ (((∃ xs, SqL K H1 a xs) ∧ R (Itl K a) H1) ∨ ((∃ xs, SqT K H1 a xs) ∧ R (Itt K a) H1))
theorem pi_sq {X : Cx} {tg l : Expr} {tl : TE} (hl : PE X l tl) : PI X tg l (iSq X.K tl) := by
  refine ⟨fun pins s σ H R I h => ?_⟩
  refine thn (hl.run pins s σ H _ I h) fun v s1 ⟨x, H1, I1, r1, a, e, q⟩ => ?_
  subst e
  cases r1
  have fp : ∀ b ∈ [s1.heap.objs.size], FpOk X pins H1 b := fun b hb => by
    obtain rfl : b = s1.heap.objs.size := by simpa using hb
    exact I1.fpOk (Nat.le_refl _) (I1.hok.fresh (Nat.le_refl _))
  rcases q with ⟨⟨xs, hq⟩, q⟩ | ⟨⟨xs, hq⟩, q⟩
  · obtain ⟨its, rv, p, hz⟩ := I1.list hq
    exact wpAny_pyIter_list p.isList ⟨s1.heap.objs.size, _, _, _, H1, rfl, I1.kept (t' := s1.toks) fun b o e => Heap.get?_push_of_some _ e, turn_list a _, ⟨_, Heap.get?_push_size _ rfl, rfl, rfl⟩, fp, q⟩
  · obtain ⟨its, rv, p, hz⟩ := I1.tuple hq
    exact wpAny_pyIter_tuple (show s1.heap.IsTuple a its.toArray from p) ⟨s1.heap.objs.size, _, _, _, H1, rfl, I1.kept (t' := s1.toks) fun b o e => Heap.get?_push_of_some _ e, turn_tuple a _, ⟨_, Heap.get?_push_size _ rfl, rfl, rfl⟩, fp, q⟩
theorem kk_cntS {X : Cx} {K : PySem.W.Frag} (h : X.K = K := by rfl) : MtR X "list.count" (rCntS K) := h ▸ mt_cntS
/-- a list or a tuple -/
def Sq2 (K : PySem.W.Frag) (H : Hp) (a : Addr) (xs : List V) : Prop := SqL K H a xs ∨ SqT K H a xs
section
variable {K : PySem.W.Frag} {H : Hp} {σ : L2.St} {t : TT} {te tl : TE} {α : Type} {P : α → V → Hp → Prop} {S : List α}
theorem Sq2.mono {H' : Hp} {a : Addr} {xs : List V} (e : Ex H H') (h : Sq2 K H a xs) : Sq2 K H' a xs := h.elim (fun h => .inl (ex_l e h)) fun h => .inr (ex_t e h)
theorem el_lcQ {a : Addr} {xs : List V} {j : Nat} {vs : List Nat} (f : Nat → Bool) (v : Nat → V) (h : Ev tl σ H (.ref a)) (hx : Sq2 K H a xs) (hz : xs.length ≤ 40000) (hw : ∀ x, wipe ((wipe σ vs).set j (some x)) vs = wipe σ vs)
    (ht : ∀ (i : Nat) (x : V) H1, Ex H H1 → xs[i]? = some x → EvT t ((wipe σ vs).set j (some x)) H1 (f i)) (he : ∀ (i : Nat) (x : V) H1, Ex H H1 → xs[i]? = some x → f i = true → Ev te ((wipe σ vs).set j (some x)) H1 (v i)) :
    EvL (tLc (iSq K tl) (gName j) t te vs) σ H (given xs.length f v) := fun H0 e Q q => h H0 e _ fun H1 e1 => ⟨a, rfl, by
  have turn : ∀ (Dl : Addr) (i : Nat) (x : V) (H' : Hp), xs[i]? = some x → Cw H1 f v Dl i H' → wipe ((wipe σ vs).set j (some x)) vs = wipe σ vs ∧ t ((wipe σ vs).set j (some x)) H' fun b H3 => if b = true then te ((wipe σ vs).set j (some x)) H3 fun y H4 => ∃ acc, H4 Dl = some (.lst acc) ∧ acc.length < sizeLine ∧ Cw H1 f v Dl (i + 1) (upd H4 Dl (.lst (acc ++ [y]))) else Cw H1 f v Dl (i + 1) H3 := fun Dl i x H' hi p =>
    ⟨hw x, cw_turn p (by have := (List.getElem?_eq_some_iff.mp hi).1; omega) (ht i x H1 (e.trans e1) hi) (fun hf => he i x H1 (e.trans e1) hi hf)⟩
  rcases hx with hx | hx
  · exact .inl ⟨⟨xs, ex_l (e.trans e1) hx⟩, fun Dl hD => lc_list (xs := xs) (Cw H1 f v Dl) ⟨hD, Ex.new hD, upd_same⟩ (fun i H' _ p => ex_l ((e.trans e1).trans p.2.1) hx) (fun i x H' hi p => turn Dl i x H' hi p) (fun H' p => q Dl H' (fresh_back e1 p.1) (e1.trans p.2.1) p.2.2)⟩
  · exact .inr ⟨⟨xs, ex_t (e.trans e1) hx⟩, fun Dl hD => lc_tup (xs := xs) (Cw H1 f v Dl) ⟨hD, Ex.new hD, upd_same⟩ (fun i H' _ p => ex_t ((e.trans e1).trans p.2.1) hx) (fun i x H' hi p => turn Dl i x H' hi p) (fun H' p => q Dl H' (fresh_back e1 p.1) (e1.trans p.2.1) p.2.2)⟩⟩
/-- [e for x in s], told by codes -/
theorem el_mapQ {a : Addr} {xs : List V} {j : Nat} {vs : List Nat} {w : α → V} (h : Ev tl σ H (.ref a)) (hs : Sq2 K H a xs) (hx : Paired (fun x i => P i x H) xs S) (hz : S.length ≤ 40000) (hw : ∀ x, wipe ((wipe σ vs).set j (some x)) vs = wipe σ vs)
    (he : ∀ (x : V) (i : α) H1, Ex H H1 → i ∈ S → P i x H → Ev te ((wipe σ vs).set j (some x)) H1 (w i)) : EvL (tLc (iSq K tl) (gName j) tYes te vs) σ H (S.map w) := by
  have hlen : xs.length = S.length := Paired.length hx
  have eq : given xs.length (fun _ => true) (fun i => (S[i]?.map w).getD .non) = S.map w := by
    unfold given
    rw [List.filter_eq_self.mpr fun _ _ => rfl, hlen]
    refine List.ext_getElem? fun i => ?_
    rw [List.getElem?_map, List.getElem?_map]
    by_cases hi : i < S.length
    · rw [List.getElem?_range hi, List.getElem?_eq_getElem hi]
      show some ((Option.map w S[i]?).getD V.non) = some (w S[i])
      rw [List.getElem?_eq_getElem hi]
      rfl
    · rw [List.getElem?_eq_none (by simpa using Nat.le_of_not_lt hi), List.getElem?_eq_none (Nat.le_of_not_lt hi)]; rfl
  rw [← eq]
  refine el_lcQ (K := K) (fun _ => true) (fun i => (S[i]?.map w).getD .non) h hs (by omega) hw (fun i x H2 e2 hi => fun H3 e3 Q q => q H3 (Ex.refl H3)) (fun i x H2 e2 hi _ => ?_)
  obtain ⟨y, hy, py⟩ := pr_at hx hi
  rw [hy]
  exact he x y H2 e2 (List.mem_of_getElem? hy) py
/-- len([x for x in s if t]) -/
theorem ev_lenFltQ {a : Addr} {xs : List V} {j : Nat} {vs : List Nat} {g : α → Bool} (h : Ev tl σ H (.ref a)) (hs : Sq2 K H a xs) (hx : Paired (fun x i => P i x H) xs S) (hz : S.length ≤ 40000) (hj : j < σ.length) (hw : ∀ x, wipe ((wipe σ vs).set j (some x)) vs = wipe σ vs)
    (ht : ∀ (x : V) (i : α) H1, Ex H H1 → i ∈ S → P i x H → EvT t ((wipe σ vs).set j (some x)) H1 (g i)) : Ev (tCB (rLenS K) (tCons (tLc (iSq K tl) (gName j) t (tVar j) vs) tNil)) σ H (.int ((S.filter g).length : Int)) := by
  have hlen : xs.length = S.length := Paired.length hx
  have e1 : EvL (tLc (iSq K tl) (gName j) t (tVar j) vs) σ H (given xs.length (fun i => (S[i]?.map g).getD false) (fun i => xs.getD i .non)) := by
    refine el_lcQ (K := K) _ _ h hs (by omega) hw (fun i x H2 e2 hi => ?_) (fun i x H2 e2 hi _ => ?_)
    · obtain ⟨y, hy, py⟩ := pr_at hx hi
      rw [hy]
      exact ht x y H2 e2 (List.mem_of_getElem? hy) py
    · have ed : xs.getD i .non = x := by rw [List.getD_eq_getElem?_getD, hi]; rfl
      rw [ed]
      refine ev_var ?_
      rw [List.getElem?_set_self (by rw [wipe_length]; exact hj)]
  have e2 := ev_lenN (K := K) e1
  have hp := Paired.length (given_flt (g := g) hx fun i x y e1 e2 => ⟨by rw [e2]; rfl, by rw [List.getD_eq_getElem?_getD, e1]; rfl⟩ : Paired (fun x i => P i x H) (given xs.length (fun i => (S[i]?.map g).getD false) (fun i => xs.getD i .non)) (S.filter g))
  rw [hp] at e2
  exact e2
end
/-! names, fields and kinds as data -/
def LET : List Nat := ("abcdefghijklmnopqrstuvwxyz" : Str).cps.toList
def CAP : List Nat := ("ABCDEFGHIJKLMNOPQRSTUVWXYZ" : Str).cps.toList
def lets (x : Str) : Bool := x.cps.toList.all fun c => decide (c ∈ LET)
/-- 1 to 8 signs -/
def sz8 (x : Str) : Bool := decide ((1 : Int) ≤ (x.length : Int)) && decide ((x.length : Int) ≤ 8)
def fnS (x : Str) : Bool := sz8 x && lets x
/-- a capital, then letters -/
def capL : List Nat → Bool
  | c :: r => decide (c ∈ CAP) && r.all fun c => decide (c ∈ LET)
  | [] => false
def knS (x : Str) : Bool := sz8 x && capL x.cps.toList
def fFN : PyData → Bool
  | .str x => fnS x
  | _ => false
def fKN : PyData → Bool
  | .str x => knS x
  | _ => false
def isNon : PyData → Bool
  | .none => true
  | _ => false
def fAny : PyData → Bool
  | .str x => decide (x = "any")
  | _ => false
def fTG (d : PyData) : Bool := fKN d || fAny d
def BIG : Int := 1000000000000
def fFM : PyData → PyData → PyData → Bool
  | .str m, t, .int i => if m = "mark" then isNon t && (decide (-BIG < i) && decide (i < BIG)) else if m = "link" ∨ m = "list" then fTG t && decide (i = 0) else false
  | _, _, _ => false
def seqOf : PyData → Option (List PyData)
  | .list ds => some ds
  | .tuple ds => some ds
  | _ => none
/-- elder names of the name n -/
def elds (n : Str) : List PyData → Bool
  | [] => true
  | [.str x] => fnS x && !decide (x = n)
  | [.str x, .str y] => (fnS x && !decide (x = n)) && (fnS y && !decide (y = n)) && !decide (x = y)
  | _ => false
def fEL (n : Str) (w : PyData) : Bool := match seqOf w with
  | some ds => elds n ds
  | none => false
def fFR : PyData → PyData → PyData → PyData → PyData → Bool
  | .str n, m, t, df, w => fnS n && (fFM m t df && fEL n w)
  | _, _, _, _, _ => false
/-! comprehensions over a text -/
section
variable {K : PySem.W.Frag} {H : Hp} {σ : L2.St} {t : TT} {te tl : TE}
theorem given_all {α : Type} (l : List α) (w : α → V) : given l.length (fun _ => true) (fun i => (l[i]?.map w).getD .non) = l.map w := by
  unfold given
  rw [List.filter_eq_self.mpr fun _ _ => rfl]
  refine List.ext_getElem? fun i => ?_
  rw [List.getElem?_map, List.getElem?_map]
  by_cases hi : i < l.length
  · rw [List.getElem?_range hi, List.getElem?_eq_getElem hi]
    show some ((Option.map w l[i]?).getD V.non) = some (w l[i])
    rw [List.getElem?_eq_getElem hi]
    rfl
  · rw [List.getElem?_eq_none (by simpa using Nat.le_of_not_lt hi), List.getElem?_eq_none (Nat.le_of_not_lt hi)]; rfl
theorem el_mapX {x : Str} {j : Nat} {vs : List Nat} {w : Nat → V} (h : Ev tl σ H (.str x)) (hz : x.cps.size ≤ 40000) (hw : ∀ x, wipe ((wipe σ vs).set j (some x)) vs = wipe σ vs)
    (he : ∀ (c : Nat) H1, Ex H H1 → Ev te ((wipe σ vs).set j (some (.str ⟨#[c]⟩))) H1 (w c)) : EvL (tLc (iStr tl) (gName j) tYes te vs) σ H (x.cps.toList.map w) := by
  rw [← given_all x.cps.toList w]
  have e0 : x.cps.toList.length = x.cps.size := by simp
  rw [e0]
  refine el_lcX (fun _ => true) (fun i => (x.cps.toList[i]?.map w).getD .non) h hz hw (fun i c H2 e2 hi => fun H3 e3 Q q => q H3 (Ex.refl H3)) (fun i c H2 e2 hi _ => ?_)
  have e1 : x.cps.toList[i]? = some c := by rw [Array.getElem?_toList]; exact hi
  rw [e1]
  exact he c H2 e2
theorem ev_lenFltX {x : Str} {j : Nat} {vs : List Nat} {g : Nat → Bool} (h : Ev tl σ H (.str x)) (hz : x.cps.size ≤ 40000) (hj : j < σ.length) (hw : ∀ x, wipe ((wipe σ vs).set j (some x)) vs = wipe σ vs)
    (ht : ∀ (c : Nat) H1, Ex H H1 → EvT t ((wipe σ vs).set j (some (.str ⟨#[c]⟩))) H1 (g c)) : Ev (tCB (rLenS K) (tCons (tLc (iStr tl) (gName j) t (tVar j) vs) tNil)) σ H (.int ((x.cps.toList.filter g).length : Int)) := by
  have e0 : x.cps.toList.length = x.cps.size := by simp
  have e1 : EvL (tLc (iStr tl) (gName j) t (tVar j) vs) σ H (given x.cps.size (fun i => (x.cps.toList[i]?.map g).getD false) (fun i => (x.cps.toList[i]?.map fun c => V.str ⟨#[c]⟩).getD .non)) := by
    refine el_lcX _ _ h hz hw (fun i c H2 e2 hi => ?_) (fun i c H2 e2 hi _ => ?_)
    · have e1 : x.cps.toList[i]? = some c := by rw [Array.getElem?_toList]; exact hi
      rw [e1]
      exact ht c H2 e2
    · have e1 : x.cps.toList[i]? = some c := by rw [Array.getElem?_toList]; exact hi
      rw [e1]
      refine ev_var ?_
      rw [List.getElem?_set_self (by rw [wipe_length]; exact hj)]
      rfl
  have e2 := ev_lenN (K := K) e1
  have pz : ∀ l : List Nat, Paired (fun (v : V) (c : Nat) => v = V.str ⟨#[c]⟩) (l.map fun c => V.str ⟨#[c]⟩) l := fun l => by
    induction l with
    | nil => exact .nil
    | cons a r ih => exact .cons rfl ih
  have hp := Paired.length (given_flt (g := g) (f := fun i => (x.cps.toList[i]?.map g).getD false) (v := fun i => (x.cps.toList[i]?.map fun c => V.str ⟨#[c]⟩).getD .non) (pz x.cps.toList) fun i v y e1 e2 => ⟨by rw [e2]; rfl, by
    rw [List.getElem?_map] at e1
    rw [e2] at e1 ⊢
    cases e1
    rfl⟩)
  rw [List.length_map, e0] at hp
  rw [hp] at e2
  exact e2
end
/-! promises of predicates -/
def spB1 (K : PySem.W.Frag) (f : PyData → Bool) : Sp := fun vs H Q _ => ∃ v d, vs = [v] ∧ PV K H v d ∧ ∀ H', Ex H H' → Q (.bl (f d)) H'
def spX (f : Str → Bool) : Sp := fun vs H Q _ => ∃ x : Str, vs = [.str x] ∧ x.length ≤ 100 ∧ ∀ H', Ex H H' → Q (.bl (f x)) H'
section
variable {K : PySem.W.Frag} {H : Hp} {σ : L2.St} {te tf : TE} {v : V} {d : PyData} {E : XK}
theorem ev_b1 {f : PyData → Bool} (h : Ev te σ H v) (p : PV K H v d) : Ev (tCall (spB1 K f) [] E (tCons te tNil)) σ H (.bl (f d)) :=
  ev_call (ea_cons h ea_nil) fun H1 e Q q E => ⟨v, d, rfl, p.mono e, fun H2 e2 => q H2 e2⟩
theorem ev_x {f : Str → Bool} {x : Str} (h : Ev te σ H (.str x)) (hl : x.length ≤ 100) : Ev (tCall (spX f) [] E (tCons te tNil)) σ H (.bl (f x)) :=
  ev_call (ea_cons h ea_nil) fun H1 e Q q E => ⟨x, rfl, hl, fun H2 e2 => q H2 e2⟩
/-- v is the text x -/
theorem pv_str {x : Str} (p : PV K H v (.str x)) : v = .str x ∧ plS x = true := by
  cases p with
  | dp h p =>
    cases h
    exact ⟨rfl, by simpa [pl, plA] using p⟩
theorem pv_isStr (p : PV K H v d) (h : isStr d = true) : ∃ x, d = .str x ∧ v = .str x ∧ x.length ≤ 20 := by
  cases d with
  | str x =>
    obtain ⟨e, q⟩ := pv_str p
    refine ⟨x, rfl, e, ?_⟩
    simp only [plS, Bool.and_eq_true, decide_eq_true_eq] at q
    exact q.2
  | _ => simp [isStr] at h
theorem slice1 {x : Str} {c : Nat} {r : List Nat} (h : x.cps.toList = c :: r) : Txt.slice x (some 1) none = ⟨r.toArray⟩ := by
  have e : x = SX.S ([c] ++ r) := by
    cases x
    have h' : _ = c :: r := h
    show _ = Str.mk (c :: r).toArray
    rw [← h']
  rw [e]
  exact SX.from_app [c] r rfl
theorem at0 {x : Str} {c : Nat} {r : List Nat} (h : x.cps.toList = c :: r) : atI x.cps.toList 0 = some c := by
  rw [h]
  have e : (0 : Int) < ((r.length + 1 : Nat) : Int) := by omega
  simp [atI, ixN]
theorem sz8_cons {x : Str} (h : sz8 x = true) : ∃ c r, x.cps.toList = c :: r ∧ x.length ≤ 8 := by
  simp only [sz8, Bool.and_eq_true, decide_eq_true_eq] at h
  have hl : x.length = x.cps.toList.length := by simp [Str.length]
  cases e : x.cps.toList with
  | nil => rw [e] at hl; simp at hl; omega
  | cons c r => exact ⟨c, r, rfl, by omega⟩
end
end Way

/-! readings: fields of instances, raised errors, fields of caught ones -/
namespace Way
open PySem PySem.Spec PyProof.Rows L2 Evl
section
variable {K : PySem.W.Frag} {σ : L2.St} {H : Hp} {te ta tv : TE} {tA : TA} {D : Ends} {tz : TS} {f g : Str} {a C dx : Addr} {fs : List (Str × V)} {v y : V}
theorem ev_fld (h : Ev ta σ H (.ref a)) (ha : H a = some (.ins C dx fs)) (c : Cls K C) (n : NoAttr K C f) (l : fs.lookup f = some v) : Ev (tFld K ta f) σ H v := fun H1 e Q q =>
  h H1 e _ fun H2 e2 => ⟨a, C, dx, fs, v, rfl, (e.trans e2) _ _ ha, c, n, l, q H2 e2⟩
theorem s_setF (hv : Ev tv σ H y) (ho : Ev ta σ H (.ref a)) (ha : H a = some (.ins C dx fs)) (c : Cls K C) (n : NoAttr K C f) (hl : fs.length < 1000) (k : ∀ H1, Ex H H1 → D.nx σ (upd H1 a (.ins C dx (putF f y fs)))) : sFld K ta tv f D σ H :=
  hv H (Ex.refl H) _ fun H1 e1 => ho H1 e1 _ fun H2 e2 => ⟨a, C, dx, fs, rfl, (e1.trans e2) _ _ ha, c, n, hl, k H2 (e1.trans e2)⟩
theorem q_setF (hv : Ev tv σ H y) (ho : Ev ta σ H (.ref a)) (ha : H a = some (.ins C dx fs)) (c : Cls K C) (n : NoAttr K C f) (hl : fs.length < 1000) (k : ∀ H1, Ex H H1 → tz D σ (upd H1 a (.ins C dx (putF f y fs)))) : tSeq (sFld K ta tv f) tz D σ H :=
  s_setF (D := { D with nx := tz D }) hv ho ha c n hl k
theorem s_setFX {P : V → Hp → Prop} (hv : EvX tv σ H P) (ho : ∀ H1, Ex H H1 → Ev ta σ H1 (.ref a)) (ha : H a = some (.ins C dx fs)) (c : Cls K C) (n : NoAttr K C f) (hl : fs.length < 1000) (m : ∀ y H1 H2, Ex H1 H2 → P y H1 → P y H2) (k : ∀ y H1, Ex H H1 → P y H1 → D.nx σ (upd H1 a (.ins C dx (putF f y fs)))) : sFld K ta tv f D σ H :=
  hv H (Ex.refl H) _ fun y H1 e1 p => ho H1 e1 H1 (Ex.refl H1) _ fun H2 e2 => ⟨a, C, dx, fs, rfl, (e1.trans e2) _ _ ha, c, n, hl, k y H2 (e1.trans e2) (m y H1 H2 e2 p)⟩
theorem q_setFX {P : V → Hp → Prop} (hv : EvX tv σ H P) (ho : ∀ H1, Ex H H1 → Ev ta σ H1 (.ref a)) (ha : H a = some (.ins C dx fs)) (c : Cls K C) (n : NoAttr K C f) (hl : fs.length < 1000) (m : ∀ y H1 H2, Ex H1 H2 → P y H1 → P y H2) (k : ∀ y H1, Ex H H1 → P y H1 → tz D σ (upd H1 a (.ins C dx (putF f y fs)))) : tSeq (sFld K ta tv f) tz D σ H :=
  s_setFX (D := { D with nx := tz D }) hv ho ha c n hl m k
/-- raise X(v) -/
theorem mko1 {u : V} {Q : XK} (h : EvA tA σ H [u]) (k : ∀ d H', Ex H H' → H' d = some (.xd [(f, u)]) → Q (.ref C) (some d) H') : tMkO C (spX1 C f) [] tA σ H Q :=
  h H (Ex.refl H) _ fun H1 e1 => ⟨(by decide : 1 ≤ 1000), fun a ha => ⟨a, u, rfl, upd_same, fun dx hd hn => ⟨rfl, dx, _, upd_same, (upd_ne hn).trans upd_same, (by rw [upd_ne hn] at hd; exact hd), by
    have hd' : H1 dx = none := by rw [upd_ne hn] at hd; exact hd
    refine k dx _ (e1.trans fun b o eb => ?_) upd_same
    have ba := ne_of_none eb ha
    have bd := ne_of_none eb hd'
    rw [upd_ne bd, del_ne ba, upd_ne ba, upd_ne bd, upd_ne ba]
    exact eb⟩⟩⟩
theorem q_mko1 {u : V} {W : Ends → Value → Option Addr → L2.St → Hp → Prop} (h : EvA tA σ H [u]) (k : ∀ d H', Ex H H' → H' d = some (.xd [(f, u)]) → W { D with nx := tz D } (.ref C) (some d) σ H') : tSeq (fun D σ H => tMkO C (spX1 C f) [] tA σ H fun cls d H' => W D cls d σ H') tz D σ H := by
  show tMkO C (spX1 C f) [] tA σ H (fun cls d H' => W { D with nx := tz D } cls d σ H')
  exact mko1 h k
theorem ev_xf {d : Addr} (h : Ev te σ H (.ref a)) (hd : H d = some (.xd fs)) (l : fs.lookup f = some v) : Ev (tXf a (.ref C) (some d) C f te) σ H v := fun H1 e Q q =>
  h H1 e _ fun H2 e2 => ⟨rfl, rfl, d, fs, v, rfl, e2 _ _ (e _ _ hd), l, q H2 e2⟩
theorem lk_same {l : List (Str × V)} : (putF f y l).lookup f = some y := by rw [lookup_putF, if_pos rfl]
theorem lk_ne {l : List (Str × V)} (h : ¬ g = f) : (putF f y l).lookup g = l.lookup g := by rw [lookup_putF, if_neg h]
theorem len_put {l : List (Str × V)} {n : Nat} (h : l.length ≤ n) : (putF f y l).length ≤ n + 1 := Nat.le_trans (length_putF f y l) (by omega)
end
/-! values of plain kinds, by their data -/
section
variable {K : PySem.W.Frag} {H : Hp} {v : V} {d : PyData}
theorem pv_int {i : Int} (p : PV K H v (.int i)) : v = .int i := by
  cases p with
  | dp h p => cases h; rfl
theorem pv_bool {b : Bool} (p : PV K H v (.bool b)) : v = .bl b := by
  cases p with
  | dp h p => cases h; rfl
theorem pv_none (p : PV K H v .none) : v = .non := by
  cases p with
  | dp h p => cases h; rfl
theorem pv_isNon (p : PV K H v d) : decide (v = .non) = isNon d := by
  cases p with
  | emp h => rfl
  | dp h p => cases h <;> rfl
theorem pv_seq {ds : List PyData} (p : PV K H v d) (h : seqOf d = some ds) : ∃ a xs, v = .ref a ∧ Sq2 K H a xs ∧ DpAll K H xs ds ∧ ds.all plE = true ∧ ds.length ≤ 3 := by
  cases p with
  | emp h' => simp [seqOf] at h
  | dp h' p =>
    cases h' with
    | lst h1 h2 =>
      simp only [seqOf, Option.some.injEq] at h
      subst h
      simp only [pl, Bool.and_eq_true, decide_eq_true_eq] at p
      exact ⟨_, _, rfl, .inl h1, h2, p.2, p.1⟩
    | tup h1 h2 =>
      simp only [seqOf, Option.some.injEq] at h
      subst h
      simp only [pl, Bool.and_eq_true, decide_eq_true_eq] at p
      exact ⟨_, _, rfl, .inr h1, h2, p.2, p.1⟩
    | _ => simp [seqOf] at h
theorem isSq_seq (h : isSq d = true) : ∃ ds, seqOf d = some ds := by
  cases d <;> simp [isSq, seqOf] at h ⊢
theorem isSq_no (h : isSq d = false) : seqOf d = none := by
  cases d <;> simp [isSq, seqOf] at h ⊢
/-- of an entry -/
def EV (K : PySem.W.Frag) (d : PyData) (v : V) (H : Hp) : Prop := Dp K H v d ∧ plE d = true
theorem EV.pv (h : EV K d v H) : PV K H v d := by
  refine .dp h.1 ?_
  have p := h.2
  cases d with
  | list ds => cases ds with
    | nil => rfl
    | cons a b => simp [plE, plA] at p
  | tuple ds => simp [plE, plA] at p
  | _ => exact p
theorem ev_all' : ∀ {xs : List V} {ds : List PyData}, DpAll K H xs ds → ds.all plE = true → Paired (fun x d => EV K d x H) xs ds
  | _, _, .nil, _ => .nil
  | _, _, .cons a r, p => by
    rw [List.all_cons, Bool.and_eq_true] at p
    exact .cons ⟨a, p.1⟩ (ev_all' r p.2)
end
end Way

/-! what repr shows tells plain data apart -/
namespace Way
open PySem PySem.Spec PyProof.Rows L2
abbrev sh (d : PyData) : List Nat := d.shown.cps.toList
theorem plC_bnd {c : Nat} (h : plC c = true) : c < 123 ∧ c ≠ 39 ∧ c ≠ 44 := by
  simp only [plC, Bool.or_eq_true, Bool.and_eq_true, decide_eq_true_eq, beq_iff_eq] at h
  omega
theorem repr_all : ∀ c, c < 123 → plC c = true → Builtin.Str.reprChar 39 c = [c] := by decide +kernel
theorem repr_plC {c : Nat} (h : plC c = true) : Builtin.Str.reprChar 39 c = [c] := repr_all c (plC_bnd h).1 h
theorem quote_pl {x : Str} (h : x.cps.toList.all plC = true) : reprQuote x = 39 := by
  have : x.cps.contains 39 = false := by
    rw [← Array.contains_toList]
    cases e : x.cps.toList.contains 39 with
    | false => rfl
    | true =>
      have hm : 39 ∈ x.cps.toList := by simpa using e
      have := List.all_eq_true.mp h 39 hm
      exact absurd rfl (plC_bnd this).2.1
  unfold reprQuote
  rw [this]
  rfl
theorem fold_pl : ∀ (l : List Nat) (acc : Array Nat), l.all plC = true → (l.foldl (fun out c => out ++ (Builtin.Str.reprChar 39 c).toArray) acc).toList = acc.toList ++ l
  | [], acc, _ => by simp
  | c :: r, acc, h => by
    rw [List.all_cons, Bool.and_eq_true] at h
    rw [List.foldl_cons, fold_pl r _ h.2, repr_plC h.1]
    simp
theorem sh_str {x : Str} (h : plS x = true) : sh (.str x) = 39 :: (x.cps.toList ++ [39]) := by
  simp only [plS, Bool.and_eq_true] at h
  have e : sh (.str x) = (reprText x).cps.toList := by simp only [sh, PyData.shown]
  rw [e]
  unfold reprText
  rw [quote_pl h.1, ← Array.foldl_toList]
  show (Array.push _ 39).toList = _
  rw [Array.toList_push, fold_pl _ _ h.1]
  rfl
theorem sh_none : sh .none = [78, 111, 110, 101] := by decide +kernel
theorem sh_true : sh (.bool true) = [84, 114, 117, 101] := by decide +kernel
theorem sh_false : sh (.bool false) = [70, 97, 108, 115, 101] := by decide +kernel
theorem sh_nat (n : Nat) : sh (.int (n : Int)) = TL.numL n := by
  have := TL.tl_num n
  simpa only [sh, PyData.shown] using this
theorem sh_neg (m : Nat) : sh (.int (Int.negSucc m)) = 45 :: TL.numL (m + 1) := by
  have e : toString (Int.negSucc m) = "-" ++ toString (((m + 1 : Nat)) : Int) := rfl
  have h1 : sh (.int (Int.negSucc m)) = (Str.ofString (toString (Int.negSucc m))).cps.toList := by simp only [sh, PyData.shown]
  have h2 := TL.tl_num (m + 1)
  have h3 := TL.tl_ofString (toString (((m + 1 : Nat)) : Int))
  have h4 := TL.tl_ofString ("-" ++ toString (((m + 1 : Nat)) : Int))
  rw [h1, e]
  refine h4.trans ?_
  rw [String.toList_append, List.map_append, ← h3, h2]
  rfl
theorem num_dig {n c : Nat} (h : c ∈ TL.numL n) : 48 ≤ c ∧ c ≤ 57 := by
  have h1 := TL.numL_digits n
  by_cases z : c < 48 ∨ 57 < c
  · exact absurd h (TL.numL_free z)
  · omega
/-- the first sign of an int's text -/
theorem int_hd (i : Int) : ∃ c r, sh (.int i) = c :: r ∧ (c = 45 ∨ (48 ≤ c ∧ c ≤ 57)) ∧ ∀ x ∈ r, 48 ≤ x ∧ x ≤ 57 := by
  cases i with
  | ofNat n =>
    have h := sh_nat n
    cases e : TL.numL n with
    | nil => exact absurd e (TL.numL_ne n)
    | cons c r =>
      exact ⟨c, r, h.trans e, .inr (num_dig (by rw [e]; exact List.mem_cons_self ..)), fun x hx => num_dig (n := n) (by rw [e]; exact List.mem_cons_of_mem _ hx)⟩
  | negSucc m => exact ⟨45, _, sh_neg m, .inl rfl, fun x hx => num_dig hx⟩
theorem int_inj {i j : Int} (h : sh (.int i) = sh (.int j)) : i = j := by
  cases i with
  | ofNat n => cases j with
    | ofNat m =>
      have := (sh_nat n).symm.trans (h.trans (sh_nat m))
      rw [TL.numL_inj this]
    | negSucc m =>
      have := (sh_nat n).symm.trans (h.trans (sh_neg m))
      have := num_dig (n := n) (c := 45) (by rw [this]; exact List.mem_cons_self ..)
      omega
  | negSucc n => cases j with
    | ofNat m =>
      have := (sh_nat m).symm.trans (h.symm.trans (sh_neg n))
      have := num_dig (n := m) (c := 45) (by rw [this]; exact List.mem_cons_self ..)
      omega
    | negSucc m =>
      have := (sh_neg n).symm.trans (h.trans (sh_neg m))
      have := TL.numL_inj (List.cons.inj this).2
      have : n = m := by omega
      rw [this]
/-! atoms -/
/-- the kind of an atom by its first sign -/
def hd0 (l : List Nat) : Nat := l.headD 0
theorem atom_cases {d : PyData} (h : plA d = true) : (d = .none ∧ hd0 (sh d) = 78) ∨ (∃ b, d = .bool b ∧ hd0 (sh d) = if b then 84 else 70) ∨ (∃ i, d = .int i ∧ (hd0 (sh d) = 45 ∨ (48 ≤ hd0 (sh d) ∧ hd0 (sh d) ≤ 57))) ∨ (∃ x, d = .str x ∧ plS x = true ∧ hd0 (sh d) = 39) := by
  cases d with
  | none => exact .inl ⟨rfl, by rw [sh_none]; rfl⟩
  | bool b =>
    refine .inr (.inl ⟨b, rfl, ?_⟩)
    cases b with
    | true => rw [sh_true]; rfl
    | false => rw [sh_false]; rfl
  | int i =>
    obtain ⟨c, r, e, h1, _⟩ := int_hd i
    refine .inr (.inr (.inl ⟨i, rfl, ?_⟩))
    rw [e]
    exact h1
  | str x =>
    refine .inr (.inr (.inr ⟨x, rfl, h, ?_⟩))
    rw [sh_str h]
    rfl
  | list _ => simp [plA] at h
  | tuple _ => simp [plA] at h
  | dict _ => simp [plA] at h
theorem atom_inj {d e : PyData} (hd : plA d = true) (he : plA e = true) (h : sh d = sh e) : d = e := by
  have hh := congrArg hd0 h
  rcases atom_cases hd with ⟨rfl, a⟩ | ⟨b, rfl, a⟩ | ⟨i, rfl, a⟩ | ⟨x, rfl, px, a⟩ <;> rcases atom_cases he with ⟨rfl, a'⟩ | ⟨b', rfl, a'⟩ | ⟨j, rfl, a'⟩ | ⟨y, rfl, py, a'⟩
  · rfl
  · rw [a, a'] at hh; cases b' <;> simp at hh
  · omega
  · omega
  · rw [a, a'] at hh; cases b <;> simp at hh
  · rw [a, a'] at hh; cases b <;> cases b' <;> simp at hh <;> rfl
  · cases b <;> simp at a <;> omega
  · cases b <;> simp at a <;> omega
  · omega
  · cases b' <;> simp at a' <;> omega
  · rw [int_inj h]
  · omega
  · omega
  · cases b' <;> simp at a' <;> omega
  · omega
  · rw [sh_str px, sh_str py] at h
    have h1 := (List.cons.inj h).2
    have h2 := List.append_cancel_right h1
    rw [TL.ext_tl h2]
theorem atom_comma {d : PyData} (h : plA d = true) : 44 ∉ sh d := by
  rcases atom_cases h with ⟨rfl, _⟩ | ⟨b, rfl, _⟩ | ⟨i, rfl, _⟩ | ⟨x, rfl, px, _⟩
  · rw [sh_none]; decide
  · cases b with
    | true => rw [sh_true]; decide
    | false => rw [sh_false]; decide
  · obtain ⟨c, r, e, h1, h2⟩ := int_hd i
    rw [e]
    intro hm
    rcases List.mem_cons.mp hm with z | z
    · omega
    · have := h2 _ z; omega
  · rw [sh_str px]
    simp only [plS, Bool.and_eq_true] at px
    intro hm
    rcases List.mem_cons.mp hm with z | z
    · cases z
    · rcases List.mem_append.mp z with z | z
      · exact absurd rfl (plC_bnd (List.all_eq_true.mp px.1 _ z)).2.2
      · simp at z
/-! rows -/
theorem split_at : ∀ {a b s t : List Nat}, 44 ∉ a → 44 ∉ b → a ++ 44 :: s = b ++ 44 :: t → a = b ∧ s = t
  | [], [], s, t, _, _, h => ⟨rfl, (List.cons.inj h).2⟩
  | [], y :: b, s, t, _, hb, h => by
    have := (List.cons.inj h).1
    exact absurd (this ▸ List.mem_cons_self ..) hb
  | x :: a, [], s, t, ha, _, h => by
    have := (List.cons.inj h).1
    exact absurd (this ▸ List.mem_cons_self ..) ha
  | x :: a, y :: b, s, t, ha, hb, h => by
    obtain ⟨h1, h2⟩ := List.cons.inj h
    obtain ⟨h3, h4⟩ := split_at (fun z => ha (List.mem_cons_of_mem _ z)) (fun z => hb (List.mem_cons_of_mem _ z)) h2
    exact ⟨by rw [h1, h3], h4⟩
theorem join_inj : ∀ {l m : List (List Nat)}, l.length = m.length → (∀ x ∈ l.dropLast, 44 ∉ x) → (∀ x ∈ m.dropLast, 44 ∉ x) → TL.joinL [44, 32] l = TL.joinL [44, 32] m → l = m
  | [], [], _, _, _, _ => rfl
  | [p], [q], _, _, _, h => by
    have h' : p = q := h
    rw [h']
  | p :: p' :: l, q :: q' :: m, hl, h1, h2, h => by
    have h' : p ++ 44 :: (32 :: TL.joinL [44, 32] (p' :: l)) = q ++ 44 :: (32 :: TL.joinL [44, 32] (q' :: m)) := h
    obtain ⟨e1, e2⟩ := split_at (h1 p (by simp [List.dropLast])) (h2 q (by simp [List.dropLast])) h'
    have e3 := join_inj (l := p' :: l) (m := q' :: m) (by simpa using hl) (fun x hx => h1 x (by rw [List.dropLast_cons₂]; exact List.mem_cons_of_mem _ hx)) (fun x hx => h2 x (by rw [List.dropLast_cons₂]; exact List.mem_cons_of_mem _ hx)) (List.cons.inj e2).2
    rw [e1, e3]
  | [], _ :: _, hl, _, _, _ => by simp at hl
  | _ :: _, [], hl, _, _, _ => by simp at hl
  | [_], _ :: _ :: _, hl, _, _, _ => by simp at hl
  | _ :: _ :: _, [_], hl, _, _, _ => by simp at hl
theorem shownAll_map : ∀ ds : List PyData, PyData.shownAll ds = ds.map PyData.shown
  | [] => rfl
  | d :: r => by rw [PyData.shownAll, shownAll_map r]; rfl
theorem sh_list (ds : List PyData) : sh (.list ds) = 91 :: (TL.joinL [44, 32] (ds.map sh) ++ [93]) := by
  have e : sh (.list ds) = (listText (PyData.shownAll ds)).cps.toList := by simp only [sh, PyData.shown]
  rw [e, listText_eq_join, shownAll_map]
  have h1 := TL.tl_append (("[" : Str) ++ Str.join ", " (ds.map PyData.shown)) "]"
  have h2 := TL.tl_append ("[" : Str) (Str.join ", " (ds.map PyData.shown))
  have h3 := TL.tl_join ", " (ds.map PyData.shown)
  refine h1.trans ?_
  rw [h2, h3, List.map_map]
  rfl
theorem sh_tuple (ds : List PyData) : sh (.tuple ds) = 40 :: (TL.joinL [44, 32] (ds.map sh) ++ (if ds.length == 1 then [44, 41] else [41])) := by
  have e : sh (.tuple ds) = (tupleText (PyData.shownAll ds)).cps.toList := by simp only [sh, PyData.shown]
  rw [e, shownAll_map]
  unfold tupleText
  have h1 := TL.tl_append (("(" : Str) ++ Str.join ", " (ds.map PyData.shown)) (if (ds.map PyData.shown).length == 1 then ",)" else ")" : String)
  have h2 := TL.tl_append ("(" : Str) (Str.join ", " (ds.map PyData.shown))
  have h3 := TL.tl_join ", " (ds.map PyData.shown)
  refine h1.trans ?_
  rw [h2, h3, List.map_map, List.length_map]
  cases h : ds.length == 1 <;> rfl
/-- lists of atoms but for the last -/
theorem list_inj {ds es : List PyData} (hl : ds.length = es.length) (hd : ∀ x ∈ ds.dropLast, plA x = true) (he : ∀ x ∈ es.dropLast, plA x = true) (h : (PyData.list ds).shown = (PyData.list es).shown) : ds.map sh = es.map sh := by
  have h' : sh (.list ds) = sh (.list es) := congrArg (fun x : Str => x.cps.toList) h
  rw [sh_list, sh_list] at h'
  have h1 := List.append_cancel_right (List.cons.inj h').2
  refine join_inj (by rw [List.length_map, List.length_map, hl]) (fun x hx => ?_) (fun x hx => ?_) h1
  · rw [← List.map_dropLast] at hx
    obtain ⟨d, hd', rfl⟩ := List.mem_map.mp hx
    exact atom_comma (hd d hd')
  · rw [← List.map_dropLast] at hx
    obtain ⟨d, hd', rfl⟩ := List.mem_map.mp hx
    exact atom_comma (he d hd')
theorem len2 {α : Type} : ∀ {l : List α}, l.length ≤ 2 → l = [] ∨ (∃ x, l = [x]) ∨ ∃ x y, l = [x, y]
  | [], _ => .inl rfl
  | [x], _ => .inr (.inl ⟨x, rfl⟩)
  | [x, y], _ => .inr (.inr ⟨x, y, rfl⟩)
  | _ :: _ :: _ :: _, h => by simp at h
theorem was_inj : ∀ {l m : List Str}, l.length ≤ 2 → m.length ≤ 2 → (∀ x ∈ l, plS x = true) → (∀ x ∈ m, plS x = true) → sh (.tuple (l.map .str)) = sh (.tuple (m.map .str)) → l = m := by
  have s0 : sh (.tuple []) = [40, 41] := by decide +kernel
  have s1 : ∀ x, sh (.tuple [.str x]) = 40 :: (sh (.str x) ++ 44 :: [41]) := fun x => by rw [sh_tuple]; rfl
  have s2 : ∀ x y, sh (.tuple [.str x, .str y]) = 40 :: (sh (.str x) ++ 44 :: (32 :: (sh (.str y) ++ [41]))) := fun x y => by
    rw [sh_tuple]
    show 40 :: ((sh (.str x) ++ ([44, 32] ++ sh (.str y))) ++ [41]) = _
    simp
  have at1 : ∀ {x y : Str} {s t : List Nat}, plS x = true → plS y = true → 40 :: (sh (.str x) ++ 44 :: s) = 40 :: (sh (.str y) ++ 44 :: t) → x = y ∧ s = t := fun {x y s t} px py h => by
    obtain ⟨h1, h2⟩ := split_at (atom_comma (d := .str x) px) (atom_comma (d := .str y) py) (List.cons.inj h).2
    have := atom_inj (d := .str x) (e := .str y) px py h1
    exact ⟨PyData.str.inj this, h2⟩
  intro l m hl hm pl pm h
  rcases len2 hl with rfl | ⟨x, rfl⟩ | ⟨x, y, rfl⟩ <;> rcases len2 hm with rfl | ⟨z, rfl⟩ | ⟨z, u, rfl⟩
  · rfl
  · have h' := (s0.symm.trans (h.trans (s1 z)))
    rw [sh_str (pm z (List.mem_cons_self ..))] at h'
    simp at h'
  · have h' := (s0.symm.trans (h.trans (s2 z u)))
    rw [sh_str (pm z (List.mem_cons_self ..))] at h'
    simp at h'
  · have h' := (s0.symm.trans (h.symm.trans (s1 x)))
    rw [sh_str (pl x (List.mem_cons_self ..))] at h'
    simp at h'
  · obtain ⟨rfl, _⟩ := at1 (pl x (List.mem_cons_self ..)) (pm z (List.mem_cons_self ..)) ((s1 x).symm.trans (h.trans (s1 z)))
    rfl
  · obtain ⟨_, e⟩ := at1 (pl x (List.mem_cons_self ..)) (pm z (List.mem_cons_self ..)) ((s1 x).symm.trans (h.trans (s2 z u)))
    simp at e
  · have h' := (s0.symm.trans (h.symm.trans (s2 x y)))
    rw [sh_str (pl x (List.mem_cons_self ..))] at h'
    simp at h'
  · obtain ⟨_, e⟩ := at1 (pl x (List.mem_cons_self ..)) (pm z (List.mem_cons_self ..)) ((s2 x y).symm.trans (h.trans (s1 z)))
    simp at e
  · obtain ⟨rfl, e⟩ := at1 (pl x (List.mem_cons_self ..)) (pm z (List.mem_cons_self ..)) ((s2 x y).symm.trans (h.trans (s2 z u)))
    have e1 := List.append_cancel_right (List.cons.inj e).2
    have := atom_inj (d := .str y) (e := .str u) (pl y (by simp)) (pm u (by simp)) e1
    rw [PyData.str.inj this]
/-- d is shown as 'any' -/
theorem shown_any {d : PyData} (h : pl d = true ∨ d = .dict []) : decide (d.shown = (PyData.str "any").shown) = fAny d := by
  have pa : plS "any" = true := by decide +kernel
  have no : ∀ c r, sh d = c :: r → c ≠ 39 → decide (d.shown = (PyData.str "any").shown) = false := fun c r e hc => decide_eq_false fun z => by
    have z' : sh d = sh (.str "any") := congrArg (fun x : Str => x.cps.toList) z
    rw [e, sh_str pa] at z'
    exact hc (List.cons.inj z').1
  rcases h with h | rfl
  · cases d with
    | list ds => exact no _ _ (sh_list ds) (by decide)
    | tuple ds => exact no _ _ (sh_tuple ds) (by decide)
    | dict kvs => simp [pl, plA] at h
    | none => exact no _ _ sh_none (by decide)
    | bool b => cases b with
      | true => exact no _ _ sh_true (by decide)
      | false => exact no _ _ sh_false (by decide)
    | int i =>
      obtain ⟨c, r, e, h1, _⟩ := int_hd i
      exact no c r e (by omega)
    | str x =>
      have px : plS x = true := h
      show _ = decide (x = "any")
      refine decide_eq_decide.mpr ⟨fun z => ?_, fun z => by rw [z]⟩
      have z' : sh (.str x) = sh (.str "any") := congrArg (fun x : Str => x.cps.toList) z
      exact PyData.str.inj (atom_inj (d := .str x) (e := .str "any") px pa z')
  · exact no 123 [125] (by decide +kernel) (by decide)
end Way

/-! own exceptions whose context is told to be None -/
namespace Way
open PySem PySem.Spec PyProof.Rows L2
theorem passN {X : Cx} : Passes (L2N.CX X.prog X.w) X E0 := fun _ _ _ _ _ _ _ h => by
  obtain ⟨_, _, _, _, _, _, _, _, _, _, _, _, z⟩ := h
  exact z.elim
theorem takesN0 {X : Cx} : L2N.Takes X (fun _ _ _ _ => False) := fun _ _ x => by
  obtain ⟨_, _, _, _, _, _, _, _, _, _, _, _, _, _, _, _, z⟩ := x
  exact z.elim
theorem okN {P : Program} {w : World} {K : PySem.W.Frag} {mg : Str → Option Value} {base : Heap} {x qual : Str} {st : Stmt} {g : Addr} {gd : FuncData} {N ps : List Str} {n : Nat} {sp : Sp} (F : Fun K x qual st g gd) (S : FnScope N ps (defScope st)) (len : ∀ vs H Q E, sp vs H Q E → vs.length = ps.length)
    (hbody : ∀ (cdv : Value) (A : Around) (outer : List Env) (z : Shared) (H : Hp) (vs : List V) (Q : VK) (E : XK), Room n (A.deeper (envOfC qual (defScope st) z.heap.objs.size g cdv)) → sp vs H Q E →
      ∃ t, PSs (cxOf (L2N.CX P w) P w K mg base N qual (defScope st) g cdv A outer z H E) (defBody st) t ∧ t { nx := fun _ H' => Q .non H', rt := Q } (start N vs) H) : FnOk P w K mg base (L2N.CX P w) (n + 1) g gd ps sp := by
  obtain ⟨oc, od, kV, doc, pm, an, cdv, ct, osl, rfl, lk, hcd⟩ := F.ex
  exact fn_of lk hcd S len fun A outer z H vs Q E hr hsp => hbody cdv A outer z H vs Q E hr hsp
section
variable {X : Cx} {e : Expr} {es : List Expr} {ta : TA} {p pos : Pos}
theorem pmkN_oex {CX : CXT} {x : Str} {C g : Addr} {n : Nat} {gd : FuncData} {ps : List Str} {sp : Sp} {ds : List Value} {dvs : List V} (T : OexC X.K C) (iC : PySem.W.findIn X.K (.ref C) "__init__" = some (some (.ref g))) (tI : PySem.W.typeIn X.K (.ref g) = some (.type "function"))
    (F1 : FnOk X.prog X.w X.K X.mg X.base CX n g gd ps sp) (hr : Room (n + 1) X.A) (hb : Binds X.K gd ps ds) (hd : Vals dvs ds) (hx : Passes CX X (fun _ _ _ => False)) (hg : Gl X x) (hm : X.mg x = some (.ref C)) (ha : PA X (e :: es) ta)
    (hdb : (x == ("__debug__" : Str)) = false := by decide) (he : starEach (e :: es) X.env = (false, eval e X.env) :: starEach es X.env := by rfl) (hpl : (backTo pos (starEach es X.env)).any (·.1) = false := by rfl) :
    L2N.PMk X (.Call (.Name x p) (e :: es) [] pos) (tMkO C sp dvs ta) := by
  intro pins z σ H Q I h
  obtain ⟨nm, qn, N, bs, bm, sn, sub, ab, col, dd, k0, k1, k2, k3, k5, hC, hbm⟩ := T.cls
  refine wpAny_Call_Name_kw (ld_glob I hg hm ?_ hdb)
  refine PySem.W.callWith_K (h₀ := X.base) I.ok.mod.kin T.kC (thn (ha.run pos pins z σ H _ I h) fun us z1 ⟨vs, H1, I1, r1, hz, q1⟩ => ⟨I1.kIn, ?_⟩) he hpl
  show wpAny _ _ (call (.ref C) us) _ _ _
  obtain ⟨hp, gs, dr, tk, os⟩ := z1
  generalize ea : hp.objs.size + 1 = a
  have hza : hp.objs.size ≤ a := by omega
  have hn : H1 a = none := I1.hok.fresh hza
  have hq := q1 a hn
  have kk : ∀ b o, hp.get? b = some o → ((hp.push (PySem.W.kdv_tup us)).push (PySem.HandSPX.excO C hp.objs.size)).get? b = some o := fun b o e => Heap.get?_push_of_some _ (Heap.get?_push_of_some _ e)
  have hget : ((hp.push (PySem.W.kdv_tup us)).push (PySem.HandSPX.excO C hp.objs.size)).get? a = some (PySem.HandSPX.excO C hp.objs.size) := by
    subst ea
    heap_get
  have I2 : Inv X pins σ (upd H1 a (exo a C none)) ⟨(hp.push (PySem.W.kdv_tup us)).push (PySem.HandSPX.excO C hp.objs.size), gs, dr, tk, os⟩ :=
    I1.laid (t' := tk) (a := a) (o := exo a C none) (h' := (hp.push (PySem.W.kdv_tup us)).push (PySem.HandSPX.excO C hp.objs.size)) kk hza (exo_ok hget)
  have r2 : Vals (V.ref a :: (vs ++ dvs)) (Value.ref a :: (us ++ ds)) := .cons rfl (r1.append hd)
  have hl : (Value.ref a :: us ++ ds).length = ps.length := by
    have y := r2.length
    rw [F1.len _ _ _ _ hq] at y
    exact y.symm
  have hus : us.length ≤ sizeLine := by
    rw [← Paired.length r1, sizeLine_eq]
    omega
  have run := F1.run _ X.stack _ _ ⟨Value.ref a :: us, []⟩ (Value.ref a :: (us ++ ds)) _ _ (fun _ _ _ => False) (hr.make C us []) (I2.env0.make C us []) (hb _ (Value.ref a :: us) I2.kIn hl) r2 hq
  subst ea
  refine wpAny_call (PySem.HandSPX.call_own F.excBase_ValueError (fun Y => PySem.HandSPX.refsVE_contains Y bm hbm) (I1.kIn _ _ hC) (PySem.W.looks_findIn I1.kIn iC) (fun self => PySem.W.bind_fn I1.kIn self tI) hus
    (codeAny_mono run fun r z' hq' => ?_))
  cases r with
  | error er => exact hx pins σ _ _ er z' I2 hq'
  | ok fl =>
    cases fl with
    | ret u =>
      obtain ⟨v, H2, os2, bare2, un2, hok2, rv, ev, d, fs, ea, ed, hd1, q2⟩ := hq'
      subst ev
      obtain ⟨h2, g2, d2, t2, os'⟩ := z'
      obtain ⟨t0, G, J, kG, ge, hoe, na⟩ := mk_end0 (d2 := d2) (t2 := t2) I1 hza kk un2 hok2 os2 bare2 ea ed hd1
      exact ⟨rv, _, _, _, ⟨G, g2, d2, t2, os'⟩, _, .ref C, some d, rfl, J, kG, ge, hoe, ⟨rfl, rfl, fun vs y => by cases y; rfl⟩, rfl, rfl, na, rfl, bare2, raises_own T.exC T.tyC, q2⟩
    | next => exact False.elim hq'
    | brk => exact False.elim hq'
    | cont => exact False.elim hq'
end
end Way

/-! while an exception is handled: what ends an iteration -/
namespace Way
open PySem PySem.Spec PyProof.Rows L2 L2H HotX
section
variable {prog : Program} {w : World} {A : Around} {E : Value → Shared → Prop} {z : Shared}
theorem stop_new {α : Type} {x1 : Addr} {Q : α → Shared → Prop} (hot : HotAt A x1 z.heap)
    (hE : ∀ a h', (∀ b o, z.heap.get? b = some o → h'.get? b = some o) → (∃ o, h'.get? a = some o ∧ o.cls = .type "StopIteration") → E (.ref a) { z with heap := h' }) :
    wpAny (model prog w) A (newExc (.type "StopIteration") [] >>= fun e => (raiseNew e : Sem α)) Q E z := by
  obtain ⟨hh, o1, vs1, h1, d1, c1⟩ := hot
  refine wpAny_bind ?_
  simp only [newExc, newTuple]
  refine wpAny_bind (wpAny_newObj_type ?_ (by size_fits))
  refine wpAny_bind (m := firstArgMember _ _) (wpAny_of_eq (a := .none) (by first | rfl | (simp only [firstArgMember]; rfl)) ?_)
  refine wpAny_newObj_type ?_ (by size_fits)
  have k1 : ∀ {o2 o3 : Obj} {b : Addr} {o : Obj}, z.heap.get? b = some o → ((z.heap.push o2).push o3).get? b = some o := fun e => Heap.get?_push_of_some _ (Heap.get?_push_of_some _ e)
  refine raiseNew_hot ⟨hh, o1, vs1, k1 h1, d1, c1⟩ (Nat.ne_of_lt (Heap.lt_size (Heap.get?_push_of_some _ h1))) (Heap.get?_push_size _ rfl) rfl (by first | (simp; done) | (simp; omega) | (simp only [Array.size_append]; simp; omega)) ?_
  refine hE _ _ (fun b o e => ?_) ⟨_, Heap.get?_update_self _ (Heap.get?_push_size _ rfl) rfl, rfl⟩
  rw [Heap.get?_update_other _ _ (Nat.ne_of_gt (Heap.lt_size (Heap.get?_push_of_some _ e)))]
  exact k1 e
/-- the handled one is no iterator with two fields -/
theorem hot_upd {x1 j : Addr} {o : Obj} {u v : Value} {f : Obj → Obj} {h : Heap} (hot : HotAt A x1 h) (ho : h.get? j = some o) (hd : o.data = .fields #[u, v]) : HotAt A x1 (h.update j f) := by
  obtain ⟨hh, o1, vs1, h1, d1, c1⟩ := hot
  have ne : j ≠ x1 := fun e => by
    subst e
    rw [ho] at h1
    cases h1
    rw [hd] at d1
    cases d1
    simp at c1
  exact ⟨hh, o1, vs1, by rw [Heap.get?_update_other _ _ ne]; exact h1, d1, c1⟩
theorem next_list_hot {j a x1 : Addr} {n : Nat} {its : Array Value} {Q : Option Value → Shared → Prop} (hot : HotAt A x1 z.heap) (hj : z.heap.IsListIter j a n) (hl : z.heap.IsList a its) (hx : its[n]? = none)
    (hQ : ∀ h', Heap.ExtBut j z.heap h' → Q none { z with heap := h' }) : wpAny (model prog w) A (pyNext (.ref j)) Q E z := by
  obtain ⟨o, ho, hc, hd⟩ := id hj
  obtain ⟨ol, hol, _, nl, hdl⟩ := hl
  unfold pyNext
  refine wpAny_bind (wpAny_attempt (wpAny_callSpecial?_slot (name := Str.ofString "__next__") hj.typeIs slot_listiter_next (wpAny_call_entry slot_listiter_next hj.typeIs entry_listiter_next ?_ (args_listiter_next _))))
  show wpAny _ _ (field (.ref j) 0 >>= _) _ _ z
  refine wpAny_bind (wpAny_field ho hd (x := .ref a) rfl ?_)
  show wpAny _ _ (if (Value.ref a == Value.none) = true then _ else _) _ _ z
  rw [if_neg (show ¬ ((Value.ref a == Value.none) = true) from Bool.false_ne_true)]
  show wpAny _ _ (field (.ref j) 1 >>= _) _ _ z
  refine wpAny_bind (wpAny_field ho hd (x := .int n 0) rfl ?_)
  show wpAny _ _ (seqItems? (.ref a) >>= _) _ _ z
  refine wpAny_bind (wpAny_seqItems hol hdl ?_)
  simp only [Int.toNat_natCast, hx]
  refine wpAny_bind (wpAny_rule (wpAny_bind (wpAny_setField ho hd (by simp) ?_)))
  refine stop_new (x1 := x1) (hot_upd hot ho hd) fun e h' k ⟨oe, he, hce⟩ => ?_
  refine wpAny_bind (wpAny_isInstance (T := "StopIteration") (b := true) ⟨oe, he, hce⟩ isSubtype_stop ?_)
  exact wpAny_pure (hQ h' fun b u hb eb => k b u (by rw [Heap.get?_update_other _ _ (Ne.symm hb)]; exact eb))
theorem next_tup_hot {j a x1 : Addr} {n : Nat} {its : Array Value} {Q : Option Value → Shared → Prop} (hot : HotAt A x1 z.heap) (hj : z.heap.IsTupleIter j a n) (hl : z.heap.IsTuple a its) (hx : its[n]? = none)
    (hQ : ∀ h', Heap.ExtBut j z.heap h' → Q none { z with heap := h' }) : wpAny (model prog w) A (pyNext (.ref j)) Q E z := by
  obtain ⟨o, ho, hc, hd⟩ := id hj
  obtain ⟨ol, hol, _, nl, hdl⟩ := hl
  unfold pyNext
  refine wpAny_bind (wpAny_attempt (wpAny_callSpecial?_slot (name := Str.ofString "__next__") hj.typeIs F.slot_tuple_iterator_next (wpAny_call_entry F.slot_tuple_iterator_next hj.typeIs F.entry_tuple_iterator_next ?_ (F.args_tuple_iterator_next_1 _))))
  show wpAny _ _ (field (.ref j) 0 >>= _) _ _ z
  refine wpAny_bind (wpAny_field ho hd (x := .ref a) rfl ?_)
  show wpAny _ _ (if (Value.ref a == Value.none) = true then _ else _) _ _ z
  rw [if_neg (show ¬ ((Value.ref a == Value.none) = true) from Bool.false_ne_true)]
  show wpAny _ _ (field (.ref j) 1 >>= _) _ _ z
  refine wpAny_bind (wpAny_field ho hd (x := .int n 0) rfl ?_)
  show wpAny _ _ (seqItems? (.ref a) >>= _) _ _ z
  refine wpAny_bind (wpAny_seqItems hol hdl ?_)
  simp only [Int.toNat_natCast, hx]
  refine wpAny_bind (wpAny_rule (wpAny_bind (wpAny_setField ho hd (by simp) ?_)))
  refine stop_new (x1 := x1) (hot_upd hot ho hd) fun e h' k ⟨oe, he, hce⟩ => ?_
  refine wpAny_bind (wpAny_isInstance (T := "StopIteration") (b := true) ⟨oe, he, hce⟩ isSubtype_stop ?_)
  exact wpAny_pure (hQ h' fun b u hb eb => k b u (by rw [Heap.get?_update_other _ _ (Ne.symm hb)]; exact eb))
theorem next_asc_hot {j x1 : Addr} {x : Str} {t : Tok} {n : Nat} {Q : Option Value → Shared → Prop} (hot : HotAt A x1 z.heap) (hj : z.heap.IsStrIter j "str_ascii_iterator" x t n) (hx : x.cps[n]? = none)
    (hQ : ∀ h', Heap.ExtBut j z.heap h' → Q none { z with heap := h' }) : wpAny (model prog w) A (pyNext (.ref j)) Q E z := by
  obtain ⟨o, ho, hc, hd⟩ := id hj
  unfold pyNext
  refine wpAny_bind (wpAny_attempt (wpAny_callSpecial?_slot (name := Str.ofString "__next__") hj.typeIs F.slot_str_ascii_iterator_next (wpAny_call_entry F.slot_str_ascii_iterator_next hj.typeIs F.entry_str_ascii_iterator_next ?_ (F.args_str_ascii_iterator_next_1 _))))
  show wpAny _ _ (field (.ref j) 0 >>= _) _ _ z
  refine wpAny_bind (wpAny_field ho hd (x := .str x t) rfl ?_)
  show wpAny _ _ (field (.ref j) 1 >>= _) _ _ z
  refine wpAny_bind (wpAny_field ho hd (x := .int n 0) rfl ?_)
  simp only [Int.toNat_natCast, hx]
  refine wpAny_bind (wpAny_rule (wpAny_bind (wpAny_setField ho hd (by simp) (wpAny_bind (wpAny_letGo ?_)))))
  refine stop_new (x1 := x1) (hot_upd hot ho hd) fun e h' k ⟨oe, he, hce⟩ => ?_
  refine wpAny_bind (wpAny_isInstance (T := "StopIteration") (b := true) ⟨oe, he, hce⟩ isSubtype_stop ?_)
  exact wpAny_pure (hQ h' fun b u hb eb => k b u (by rw [Heap.get?_update_other _ _ (Ne.symm hb)]; exact eb))
/-- a list, unpacked -/
theorem unp_hot {a x1 : Addr} {its : Array Value} {Q : List Value → Shared → Prop} (hot : HotAt A x1 z.heap) (hl : z.heap.IsList a its)
    (hQ : ∀ h', Heap.ExtBut z.heap.objs.size z.heap h' → Q its.toList { z with heap := h' }) : wpAny (model prog w) A (unpackItems (.ref a) its.size none) Q E z := by
  have hne : a ≠ z.heap.objs.size := by obtain ⟨o, ho, _⟩ := hl; exact Nat.ne_of_lt (Heap.lt_size ho)
  have hnx : x1 ≠ z.heap.objs.size := by obtain ⟨_, o1, _, h1, _⟩ := hot; exact Nat.ne_of_lt (Heap.lt_size h1)
  unfold unpackItems
  refine wpAny_bind ?_
  · unfold notIterableAtAll
    refine wpAny_bind (wpAny_specialOf hl.typeIs slot_list_iter.lookup ?_)
    refine wpAny_pure ?_
    simp only [Bool.false_eq_true, if_false]
    refine wpAny_bind (wpAny_holding (wpAny_pyIter_list hl ?_))
    refine wpAny_bind (wpAny_holding (PySem.W.kun_draw hne its.size 0 _ _ ⟨_, Heap.get?_push_size _ rfl, rfl, rfl⟩ (hl.push _) (by omega) fun h1 hj1 hs1 => ?_))
    have hall : List.take its.size (List.drop 0 its.toList) = its.toList := by
      rw [List.drop_zero]; exact List.take_of_length_le (by simp)
    rw [hall, if_neg (by simp)]
    have hl1 : h1.IsList a its := (hl.push _).extBut hs1.extBut hne
    have hot1 : HotAt A x1 h1 := by
      obtain ⟨hh, o1, vs1, g1, d1, c1⟩ := hot
      exact ⟨hh, o1, vs1, hs1.extBut x1 o1 hnx (Heap.get?_push_of_some _ g1), d1, c1⟩
    refine wpAny_bind (wpAny_holding (next_list_hot hot1 hj1 hl1 (by simp) fun h2 he2 => ?_))
    simp only [Option.isSome_none, Bool.false_eq_true, if_false]
    exact wpAny_pure (hQ h2 fun b o hb e => he2 b o hb (hs1.extBut b o hb (Heap.get?_push_of_some _ e)))
end
end Way

/-! while an exception is handled: comprehensions, unpacking -/
namespace Way
open PySem PySem.Spec PyProof.Rows L2 L2H HotX
/-- turns of an iterator, an exception being handled -/
structure TurnQ (P : Program) (w : World) (K : PySem.W.Frag) (tg : Expr) (J : It) (fp : List Addr) (j : Addr) (tn : Nat → Heap → Prop) : Prop where
  mem : j ∈ fp
  obj : ∀ n h, tn n h → ∀ b ∈ fp, ∃ o, h.get? b = some o ∧ ∀ v, o.data ≠ .cell v
  keep : ∀ n h h', tn n h → (∀ b ∈ fp, ∀ o, h.get? b = some o → h'.get? b = some o) → tn n h'
  item : ∀ (Y : Cx), Y.prog = P → Y.w = w → Y.K = K → ∀ (n : Nat) (pins : List (Addr × Obj)) (z : Shared) (τ : L2.St) (H : Hp) (E : Value → Shared → Prop), Inv Y pins τ H z → (∀ b ∈ fp, FpOk Y pins H b) → tn n z.heap → J.go n H →
    wpAny (model P w) Y.A (pyNext (.ref j)) (fun r z1 => ∃ u, r = some u ∧ wpAny (model P w) Y.A (letOwnedTupleGo tg (.ref j) u) (fun _ z2 => ∃ x H', Inv Y pins τ H' z2 ∧ RelV x u ∧ J.yld n H x H' ∧ tn (n + 1) z2.heap ∧ ∀ b ∈ fp, H' b = none) E z1) E z
  done : ∀ (Y : Cx), Y.prog = P → Y.w = w → Y.K = K → ∀ (n : Nat) (pins : List (Addr × Obj)) (z : Shared) (τ : L2.St) (H : Hp) (E : Value → Shared → Prop), (∃ x1, HotAt Y.A x1 z.heap) → Inv Y pins τ H z → (∀ b ∈ fp, FpOk Y pins H b) → tn n z.heap → J.stop n H →
    wpAny (model P w) Y.A (pyNext (.ref j)) (fun r z1 => r = none ∧ Inv Y pins τ H z1) E z
  self : ∀ (A : Around) (n : Nat) (z : Shared) (Q : Value → Shared → Prop) (E : Value → Shared → Prop), tn n z.heap → Q (.ref j) z → wpAny (model P w) A (pyIter (.ref j)) Q E z
theorem tq_list {P : Program} {w : World} {K : PySem.W.Frag} {tg : Expr} (a j : Addr) : TurnQ P w K tg (Itl K a) [j] j (fun n h => h.IsListIter j a n) where
  mem := (turn_list (P := P) (w := w) (K := K) (tg := tg) a j).mem
  obj := (turn_list (P := P) (w := w) (K := K) (tg := tg) a j).obj
  keep := (turn_list (P := P) (w := w) (K := K) (tg := tg) a j).keep
  self := (turn_list (P := P) (w := w) (K := K) (tg := tg) a j).self
  item := by
    intro Y hP hw hK n pins z τ H E I hf st hg
    subst hP hw hK
    obtain ⟨xs, x, hq, hx⟩ := hg
    obtain ⟨its, rv, p, _⟩ := I.list hq
    obtain ⟨u, hu, ru⟩ := rv.get hx
    obtain ⟨g0, g1, g2, g3, g4, g5⟩ := hf j (by simp)
    refine wpAny_pyNext_list_item st p.isList (x := u) (by simpa using hu) fun h' st' sb => ?_
    have J1 : Inv Y pins τ H { z with heap := h' } := I.turned (t' := z.toks) (fun b o hb e => (sb.2 b hb).trans e) g0 g1 g3 g4 g5
    obtain ⟨o, e, c, d⟩ := id st'
    exact ⟨u, rfl, go_of (s := { z with heap := h' }) e c d (by decide) ⟨x, H, J1, ru, ⟨rfl, fun ys hy => by rw [I.list_inj hy hq]; exact hx⟩, st', fun b hb => (hf b hb).1⟩⟩
  done := by
    intro Y hP hw hK n pins z τ H E hot I hf st hg
    subst hP hw hK
    obtain ⟨x1, hot⟩ := hot
    obtain ⟨xs, hq, hx⟩ := hg
    obtain ⟨its, rv, p, _⟩ := I.list hq
    obtain ⟨g0, g1, g2, g3, g4, g5⟩ := hf j (by simp)
    have hl := rv.length
    exact next_list_hot hot st p.isList (by simp; omega) fun h' eb => ⟨rfl, I.turned (t' := z.toks) (fun b o hb e => eb b o hb e) g0 g1 g3 g4 g5⟩
theorem tq_tup {P : Program} {w : World} {K : PySem.W.Frag} {tg : Expr} (a j : Addr) : TurnQ P w K tg (Itt K a) [j] j (fun n h => h.IsTupleIter j a n) where
  mem := (turn_tuple (P := P) (w := w) (K := K) (tg := tg) a j).mem
  obj := (turn_tuple (P := P) (w := w) (K := K) (tg := tg) a j).obj
  keep := (turn_tuple (P := P) (w := w) (K := K) (tg := tg) a j).keep
  self := (turn_tuple (P := P) (w := w) (K := K) (tg := tg) a j).self
  item := by
    intro Y hP hw hK n pins z τ H E I hf st hg
    subst hP hw hK
    obtain ⟨xs, x, hq, hx⟩ := hg
    obtain ⟨its, rv, p, _⟩ := I.tuple hq
    obtain ⟨u, hu, ru⟩ := rv.get hx
    obtain ⟨g0, g1, g2, g3, g4, g5⟩ := hf j (by simp)
    refine wpAny_pyNext_tuple_item st (show z.heap.IsTuple a its.toArray from p) (x := u) (by simpa using hu) fun h' st' sb => ?_
    have J1 : Inv Y pins τ H { z with heap := h' } := I.turned (t' := z.toks) (fun b o hb e => (sb.2 b hb).trans e) g0 g1 g3 g4 g5
    obtain ⟨o, e, c, d⟩ := id st'
    exact ⟨u, rfl, go_of (s := { z with heap := h' }) e c d (by decide) ⟨x, H, J1, ru, ⟨rfl, fun ys hy => by rw [I.tuple_inj hy hq]; exact hx⟩, st', fun b hb => (hf b hb).1⟩⟩
  done := by
    intro Y hP hw hK n pins z τ H E hot I hf st hg
    subst hP hw hK
    obtain ⟨x1, hot⟩ := hot
    obtain ⟨xs, hq, hx⟩ := hg
    obtain ⟨its, rv, p, _⟩ := I.tuple hq
    obtain ⟨g0, g1, g2, g3, g4, g5⟩ := hf j (by simp)
    have hl := rv.length
    exact next_tup_hot hot st (show z.heap.IsTuple a its.toArray from p) (by simp; omega) fun h' eb => ⟨rfl, I.turned (t' := z.toks) (fun b o hb e => eb b o hb e) g0 g1 g3 g4 g5⟩
theorem tq_asc {P : Program} {w : World} {K : PySem.W.Frag} {tg : Expr} (j : Addr) (x : Str) (t : Tok) : TurnQ P w K tg (Its x) [j] j (fun n h => h.IsStrIter j "str_ascii_iterator" x t n) where
  mem := (turn_str (P := P) (w := w) (K := K) (tg := tg) j x t "str_ascii_iterator" (.inl rfl)).mem
  obj := (turn_str (P := P) (w := w) (K := K) (tg := tg) j x t "str_ascii_iterator" (.inl rfl)).obj
  keep := (turn_str (P := P) (w := w) (K := K) (tg := tg) j x t "str_ascii_iterator" (.inl rfl)).keep
  self := (turn_str (P := P) (w := w) (K := K) (tg := tg) j x t "str_ascii_iterator" (.inl rfl)).self
  item := by
    intro Y hP hw hK n pins z τ H E I hf st hg
    subst hP hw hK
    obtain ⟨g0, g1, g2, g3, g4, g5⟩ := hf j (by simp)
    have hn : n < x.cps.size := hg
    refine wpAny_pyNext_ascii_item st (c := x.cps[n]) (Array.getElem?_eq_getElem hn) fun h' st' sb => ?_
    have J1 : Inv Y pins τ H { z with heap := h', toks := z.toks + 1 } := I.turned (fun b o hb e => (sb.2 b hb).trans e) g0 g1 g3 g4 g5
    obtain ⟨oi, e, cc, dd⟩ := id st'
    exact ⟨_, rfl, go_of (s := { z with heap := h', toks := z.toks + 1 }) e cc dd (by decide) ⟨.str ⟨#[x.cps[n]]⟩, H, J1, ⟨_, rfl⟩, ⟨rfl, _, Array.getElem?_eq_getElem hn, rfl⟩, st', fun b hb => (hf b hb).1⟩⟩
  done := by
    intro Y hP hw hK n pins z τ H E hot I hf st hg
    subst hP hw hK
    obtain ⟨x1, hot⟩ := hot
    obtain ⟨g0, g1, g2, g3, g4, g5⟩ := hf j (by simp)
    exact next_asc_hot hot st (Array.getElem?_eq_none hg) fun h' eb => ⟨rfl, I.turned (t' := z.toks) (fun b o hb e => eb b o hb e) g0 g1 g3 g4 g5⟩
def PIEQ (X : Cx) (pins : List (Addr × Obj)) (σ : L2.St) (tg : Expr) (R : It → Hp → Prop) (jv : Value) (z : Shared) : Prop :=
  ∃ (j : Addr) (fp : List Addr) (tn : Nat → Heap → Prop) (J : It) (H' : Hp), jv = .ref j ∧ Inv X pins σ H' z ∧ TurnQ X.prog X.w X.K tg J fp j tn ∧ tn 0 z.heap ∧ (∀ b ∈ fp, FpOk X pins H' b) ∧ R J H'
structure PIQ (X : Cx) (tg e : Expr) (wi : TI) : Prop where
  run : ∀ (pins : List (Addr × Obj)) (z : Shared) (σ : L2.St) (H : Hp) (R : It → Hp → Prop), Inv X pins σ H z → wi σ H R → wpAny (model X.prog X.w) X.A (eval e X.env) (fun v z1 => wpAny (model X.prog X.w) X.A (pyIter v) (PIEQ X pins σ tg R) X.xe z1) X.xe z
section
variable {X : Cx}
theorem piq_sq {tg l : Expr} {tl : TE} (hl : PE X l tl) : PIQ X tg l (iSq X.K tl) := by
  refine ⟨fun pins s σ H R I h => ?_⟩
  refine thn (hl.run pins s σ H _ I h) fun v s1 ⟨x, H1, I1, r1, a, e, q⟩ => ?_
  subst e
  cases r1
  have fp : ∀ b ∈ [s1.heap.objs.size], FpOk X pins H1 b := fun b hb => by
    obtain rfl : b = s1.heap.objs.size := by simpa using hb
    exact I1.fpOk (Nat.le_refl _) (I1.hok.fresh (Nat.le_refl _))
  rcases q with ⟨⟨xs, hq⟩, q⟩ | ⟨⟨xs, hq⟩, q⟩
  · obtain ⟨its, rv, p, hz⟩ := I1.list hq
    exact wpAny_pyIter_list p.isList ⟨s1.heap.objs.size, _, _, _, H1, rfl, I1.kept (t' := s1.toks) fun b o e => Heap.get?_push_of_some _ e, tq_list a _, ⟨_, Heap.get?_push_size _ rfl, rfl, rfl⟩, fp, q⟩
  · obtain ⟨its, rv, p, hz⟩ := I1.tuple hq
    exact wpAny_pyIter_tuple (show s1.heap.IsTuple a its.toArray from p) ⟨s1.heap.objs.size, _, _, _, H1, rfl, I1.kept (t' := s1.toks) fun b o e => Heap.get?_push_of_some _ e, tq_tup a _, ⟨_, Heap.get?_push_size _ rfl, rfl, rfl⟩, fp, q⟩
/-- a text of plain signs -/
def iAsc (te : TE) : TI := fun σ H R => te σ H fun v H1 => ∃ x : Str, v = .str x ∧ x.cps.all (· < 128) = true ∧ R (Its x) H1
theorem piq_asc {tg e : Expr} {te : TE} (he : PE X e te) : PIQ X tg e (iAsc te) := by
  refine ⟨fun pins s σ H R I h => ?_⟩
  refine thn (he.run pins s σ H _ I h) fun v s1 ⟨y, H1, I1, r1, x, ex, ha, q⟩ => ?_
  subst ex
  obtain ⟨t, rfl⟩ := r1
  have fp : ∀ b ∈ [s1.heap.objs.size], FpOk X pins H1 b := fun b hb => by
    obtain rfl : b = s1.heap.objs.size := by simpa using hb
    exact I1.fpOk (Nat.le_refl _) (I1.hok.fresh (Nat.le_refl _))
  exact wpAny_pyIter_ascii ha ⟨s1.heap.objs.size, _, _, _, H1, rfl, I1.kept (t' := s1.toks) fun b o e => Heap.get?_push_of_some _ e, tq_asc _ x t, ⟨_, Heap.get?_push_size _ rfl, rfl, rfl⟩, fp, q⟩
/-- a, b, .. = the list -/
theorem pgq_lst {es : List Expr} {k n : Nat} {t : TGs} {pos : Pos} (hc : HotC X) (h : PGs X es t) (hn : (assignEach es X.env).length = n := by rfl) (hst : (assignEach es X.env).findIdx? (·.1) = none := by rfl) : PG X (.Tuple es k pos) (gLst X.K n t) := by
  refine ⟨fun pins z σ H v u Q I r hw => ?_⟩
  obtain ⟨a, xs, ea, hq, hl, hw⟩ := hw
  subst ea
  cases r
  obtain ⟨its, rv, pl, hz⟩ := I.list hq
  obtain ⟨x1, hot⟩ := hc.at I
  have hsz : (assignEach es X.env).length = its.toArray.size := by simp [hn, ← hl, rv.length]
  rw [PyProof.Rows.assign_Tuple]
  refine wpAny_bind (wpAny_standAt ?_)
  unfold unpack
  rw [hsz, hst]
  refine wpAny_bind (wpAny_holding (unp_hot hot pl.isList fun h' hx => ?_))
  have I1 : Inv X pins σ H { z with heap := h' } := I.kept (t' := z.toks) fun b o e => hx b o (Nat.ne_of_lt (Heap.lt_size e)) e
  exact h.run pins _ σ H xs _ Q I1 (by simpa using rv) hw
end
end Way

/-! while an exception is handled: [.. for .. in .. if ..] -/
namespace Way
open PySem PySem.Spec PyProof.Rows L2 L2H HotX
section
variable {X : Cx}
theorem lcq_core {pins : List (Addr × Obj)} {z : Shared} {σ : L2.St} {H : Hp} {Q : VK} {elt tg e : Expr} {ifs : List Expr} {sc : Scope} {own : List (Str × Nat)} {pos pos' : Pos} {wi : TI} {g : TG} {tt : TT} {te : TE} {use : Option (Value → Sem Unit)} {Qf : Value → Shared → Prop}
    (hot : HotC X) (nd : X.N.Nodup) (I : Inv X pins σ H z) (hi : PIQ X tg e wi) (ok : BlkOk X.N X.env.scope sc own)
    (hg : ∀ (s : Shared) (H : Hp) (C : Addr) (cl : List (Str × Addr)) (fp : List Addr), PG (X.blk s H sc (compEnvC sc cl C X.env) fp) tg g) (ht : ∀ (s : Shared) (H : Hp) (C : Addr) (cl : List (Str × Addr)) (fp : List Addr), PTs (X.blk s H sc (compEnvC sc cl C X.env) fp) ifs tt)
    (he : ∀ (s : Shared) (H : Hp) (C : Addr) (cl : List (Str × Addr)) (fp : List Addr), PE (X.blk s H sc (compEnvC sc cl C X.env) fp) elt te) (hs : ∀ x, foldedSetIterable e X.env x = pure x)
    (h : tLc wi g tt te (own.map (·.2)) σ H Q)
    (fin : ∀ L C z' m H', Inv X pins σ H' z' → Q (.ref L) H' → z'.heap.Ns C m → FpOk X pins H' C → compPost (model X.prog X.w) X.A X.xe use Qf (.ref L) C (.ok .next) z') :
    wpAny (model X.prog X.w) X.A (comprehension (.ListComp elt [⟨tg, e, ifs, 0⟩] sc pos) sc X.env pos' (newList []) false (eval e X.env) use) Qf X.xe z := by
  have frees : ∀ y ∈ sc.names, y.2 = .free → ∃ c, X.env.cells.lookup y.1 = some c := fun y hy q => (ok.free y hy q).elim (fun k => I.ok.has _ (.inl k)) fun k => I.ok.has _ (.inr k)
  refine wpAny_comprehension_free (use := use) rfl hs (closure_ok frees) ok.kind (fun y hy q => by rw [ok.uniq y hy, q]) (thn (hi.run pins z σ H _ I h) fun xv z1 hx => thn hx fun jv z2 h2 => ?_)
  obtain ⟨j, fp, tn, J, H2, ej, I2, T, st2, f2, q⟩ := h2
  subst ej
  refine wpAny_newObj_type (newEnv_comp ?_) (by show 0 ≤ sizeLine; decide)
  generalize eL : z2.heap.objs.size = L
  have hLn : H2 L = none := I2.hok.fresh (Nat.le_of_eq eL)
  obtain ⟨W, ⟨m0, w0⟩, turn⟩ := q L hLn
  generalize ez3 : ({ z2 with heap := z2.heap.push { cls := .type "list", data := .seq ([] : List Value).toArray } } : Shared) = z3
  have I3 : Inv X pins σ (upd H2 L (.lst [])) z3 := by
    rw [← ez3]
    refine I2.laid (t' := z2.toks) (fun b o ee => Heap.get?_push_of_some _ ee) (Nat.le_of_eq eL) ⟨Nat.zero_le _, [], 0, .nil, ?_⟩
    rw [← eL]
    exact Heap.get?_push_size _ rfl
  have h3 : z3.heap = z2.heap.push { cls := .type "list", data := .seq ([] : List Value).toArray } := by rw [← ez3]
  have f3 : ∀ b ∈ fp, FpOk X pins (upd H2 L (.lst [])) b ∧ b < z3.heap.objs.size := fun b hb => by
    have lt : b < z2.heap.objs.size := by
      obtain ⟨o, ee, _⟩ := T.obj _ _ st2 b hb
      exact Heap.lt_size ee
    refine ⟨⟨?_, (f2 b hb).2⟩, by rw [h3, Heap.size_push]; exact Nat.lt_succ_of_lt lt⟩
    rw [upd_ne (by rw [← eL]; exact Nat.ne_of_lt lt)]
    exact (f2 b hb).1
  have st3 : tn 0 z3.heap := T.keep _ _ _ st2 fun b _ o ee => by rw [h3]; exact Heap.get?_push_of_some _ ee
  have I4 := block_start I3 ok nd f3
  have pg := hg z3 (upd H2 L (.lst [])) z3.heap.objs.size (cellsFrom (z3.heap.objs.size + 1) sc.names (cloFrom X.env.cells sc.names [])) fp
  have pt := ht z3 (upd H2 L (.lst [])) z3.heap.objs.size (cellsFrom (z3.heap.objs.size + 1) sc.names (cloFrom X.env.cells sc.names [])) fp
  have pe := he z3 (upd H2 L (.lst [])) z3.heap.objs.size (cellsFrom (z3.heap.objs.size + 1) sc.names (cloFrom X.env.cells sc.names [])) fp
  show codeAny _ _ (.compStart (.ListComp elt [⟨tg, e, ifs, 0⟩] sc pos) 0 (.ref j) (.ref L) (compEnvC sc (cellsFrom (z3.heap.objs.size + 1) sc.names (cloFrom X.env.cells sc.names [])) z3.heap.objs.size X.env)) (compPost (model X.prog X.w) X.A X.xe use Qf (.ref L) z3.heap.objs.size) _
  have nfp : ∀ b ∈ fp, (upd H2 L (.lst [])) b = none := fun b hb => (f3 b hb).1.1
  generalize ece : compEnvC sc (cellsFrom (z3.heap.objs.size + 1) sc.names (cloFrom X.env.cells sc.names [])) z3.heap.objs.size X.env = ce at I4 pg pt pe ⊢
  have cL : ce.locals = z3.heap.objs.size := by subst ece; rfl
  generalize eH3 : upd H2 L (.lst []) = H3 at I3 I4 pg pt pe w0 nfp f3
  generalize ez4 : ({ z3 with heap := pushCells (z3.heap.push { cls := .type "dict", data := .dict #[] }) sc.names } : Shared) = z4 at I4 ⊢
  have st4 : tn 0 z4.heap := T.keep _ _ _ st3 fun b _ o ee => by rw [← ez4]; exact pushCells_keeps _ _ _ _ (Heap.get?_push_of_some _ ee)
  have stat : ∀ {τ : L2.St} {H' : Hp} {z' : Shared}, Inv (X.blk z3 H3 sc ce fp) [] τ H' z' → (∀ b ∈ fp, H' b = none) → ∀ b ∈ fp, FpOk (X.blk z3 H3 sc ce fp) [] H' b := fun {τ H' z'} J' hn b hb =>
    ⟨hn b hb, (J'.ok.exf b hb).1, J'.ok.exfs b hb, .inl hb, fun x c ee => (J'.ok.exf b hb).2 x c ee, fun p hp => absurd (show p ∈ ([] : List (Addr × Obj)) ++ [] from hp) (by simp)⟩
  -- out of the block
  have back : ∀ {τ : L2.St} {H' : Hp} {z' : Shared}, Inv (X.blk z3 H3 sc ce fp) [] τ H' z' → Inv X pins σ H' z' := fun {τ H' z'} J' =>
    I3.call' (ch := fp) J'.os J'.base J'.hok J'.bare fun b hb => ⟨(f3 b hb).1.2.2.2.1, (f3 b hb).1.2.1, (f3 b hb).1.2.2.2.2.1, (f3 b hb).1.2.2.2.2.2⟩
  have loop : codeAny (model X.prog X.w) X.A (.compLoop (.ListComp elt [⟨tg, e, ifs, 0⟩] sc pos) 0 (.ref j) (.ref L) ce) (compPost (model X.prog X.w) X.A X.xe use Qf (.ref L) z3.heap.objs.size) z4 := by
    refine compLoop_any (fun k z' => ∃ n H', Inv (X.blk z3 H3 sc ce fp) [] (wipe σ (own.map (·.2))) H' z' ∧ tn n z'.heap ∧ (∀ b ∈ fp, H' b = none) ∧ W n k H') ?_ m0 ⟨0, H3, I4, st4, nfp, w0⟩
    rintro k z5 ⟨n, H5, I5, st5, n5, w5⟩
    rcases turn n k H5 w5 with ⟨stop, qq⟩ | ⟨go, Nx, hNx, step⟩
    · refine thnF (T.done (X.blk z3 H3 sc ce fp) rfl rfl rfl n [] z5 _ H5 (fun _ _ => False) (hot.at (back I5)) I5 (stat I5 n5) st5 stop) fun r z6 ⟨hr, I6⟩ => ?_
      subst hr
      have nC : H5 z3.heap.objs.size = none := by
        have y : H5 ce.locals = none := I6.free
        rw [cL] at y
        exact y
      obtain ⟨m, hn, _⟩ := I6.loc
      have hn : z6.heap.Ns ce.locals m := hn
      rw [cL] at hn
      exact fin L z3.heap.objs.size z6 m H5 (back I6) qq hn (I3.fpOk (Nat.le_refl _) nC)
    · refine thnF (T.item (X.blk z3 H3 sc ce fp) rfl rfl rfl n [] z5 _ H5 (fun _ _ => False) I5 (stat I5 n5) st5 go) fun r z6 ⟨u, hr, h6⟩ => ?_
      subst hr
      refine thnF h6 fun _ z7 ⟨x, H7, I7, r7, y7, st7, n7⟩ => ?_
      refine thnF (pg.run _ z7 _ H7 x u _ (I7.pinned (stat I7 n7) (T.obj _ _ st7)) r7 (step x H7 y7)) fun _ z8 ⟨σ8, H8, I8, hw8, q8⟩ => ?_
      refine thnF (pt.run _ z8 σ8 H8 _ I8 q8) fun b z9 ⟨H9, I9, q9⟩ => ?_
      have endT : ∀ {z' : Shared} {H' : Hp}, Inv (X.blk z3 H3 sc ce fp) ([] ++ pinsAt fp z7.heap) σ8 H' z' → Nx H' → ∃ m, m < k ∧ ∃ n H', Inv (X.blk z3 H3 sc ce fp) [] (wipe σ (own.map (·.2))) H' z' ∧ tn n z'.heap ∧ (∀ b ∈ fp, H' b = none) ∧ W n m H' := fun {z' H'} J' nx => by
        obtain ⟨m', hm, w'⟩ := hNx H' nx
        have pin' : ∀ b ∈ fp, ∀ o, z7.heap.get? b = some o → z'.heap.get? b = some o ∧ H' b = none := fun b hb o ee =>
          let y := J'.pin (b, o) (List.mem_append_right _ (List.mem_append_right _ (mem_pinsAt hb ee)))
          ⟨y.1, y.2.1⟩
        have len8 : (wipe σ (own.map (·.2))).length = σ8.length := by rw [← hw8, wipe_length]
        refine ⟨m', hm, n + 1, H', (J'.unpinned (pins := [])).weak len8 (fun i v ee => ?_), T.keep _ _ _ st7 fun b hb o ee => (pin' b hb o ee).1, fun b hb => ?_, w'⟩
        · rw [← hw8] at ee
          exact (wipe_some ee).1
        · obtain ⟨o, ee, _⟩ := T.obj _ _ st7 b hb
          exact (pin' b hb o ee).2
      cases b with
      | false =>
        simp only [Bool.false_eq_true, if_false] at q9 ⊢
        exact endT I9 q9
      | true =>
        simp only [if_true] at q9 ⊢
        refine thnF (pe.run _ z9 σ8 H9 _ I9 q9) fun y z10 ⟨yv, H10, I10, r10, acc, hL10, hz10, nx⟩ => ?_
        exact app_ok (X := X.blk z3 H3 sc ce fp) I10 hL10 hz10 r10 fun z11 I11 => endT I11 nx
  exact codeAny_compStart_list loop (T.self X.A 0 _ _ _ st4 loop)
theorem peq_lc {elt tg e : Expr} {ifs : List Expr} {sc : Scope} {own : List (Str × Nat)} {pos : Pos} {wi : TI} {g : TG} {tt : TT} {te : TE} (hot : HotC X) (nd : X.N.Nodup) (hi : PIQ X tg e wi) (ok : BlkOk X.N X.env.scope sc own)
    (hg : ∀ (s : Shared) (H : Hp) (C : Addr) (cl : List (Str × Addr)) (fp : List Addr), PG (X.blk s H sc (compEnvC sc cl C X.env) fp) tg g) (ht : ∀ (s : Shared) (H : Hp) (C : Addr) (cl : List (Str × Addr)) (fp : List Addr), PTs (X.blk s H sc (compEnvC sc cl C X.env) fp) ifs tt)
    (he : ∀ (s : Shared) (H : Hp) (C : Addr) (cl : List (Str × Addr)) (fp : List Addr), PE (X.blk s H sc (compEnvC sc cl C X.env) fp) elt te) (hs : ∀ x, foldedSetIterable e X.env x = pure x := by intro _; rfl) :
    PE X (.ListComp elt [⟨tg, e, ifs, 0⟩] sc pos) (tLc wi g tt te (own.map (·.2))) := by
  refine ⟨fun pins z σ H Q I h => ?_⟩
  rw [eval_ListComp]
  refine lcq_core hot nd I hi ok hg ht he hs h fun L C z' m H' I' q hn f => ⟨m, hn, fun h'' sb => ?_⟩
  obtain ⟨g0, g1, g2, g3, g4, g5⟩ := f
  exact ⟨.ref L, H', I'.turned (t' := z'.toks) (fun b o hb ee => (sb.2 b hb).trans ee) g0 g1 g3 g4 g5, rfl, q⟩
end
end Way

/-! while an exception is handled: texts of all signs; defs that are called there -/
namespace Way
open PySem PySem.Spec PyProof.Rows L2 L2H HotX
section
variable {prog : Program} {w : World} {A : Around} {E : Value → Shared → Prop} {z : Shared}
theorem next_wid_hot {j x1 : Addr} {x : Str} {t : Tok} {n : Nat} {Q : Option Value → Shared → Prop} (hot : HotAt A x1 z.heap) (hj : z.heap.IsStrIter j "str_iterator" x t n) (hx : x.cps[n]? = none)
    (hQ : ∀ h', Heap.ExtBut j z.heap h' → Q none { z with heap := h' }) : wpAny (model prog w) A (pyNext (.ref j)) Q E z := by
  obtain ⟨o, ho, hc, hd⟩ := id hj
  unfold pyNext
  refine wpAny_bind (wpAny_attempt (wpAny_callSpecial?_slot (name := Str.ofString "__next__") hj.typeIs F.slot_str_iterator_next (wpAny_call_entry F.slot_str_iterator_next hj.typeIs F.entry_str_iterator_next ?_ (F.args_str_iterator_next_1 _))))
  show wpAny _ _ (field (.ref j) 0 >>= _) _ _ z
  refine wpAny_bind (wpAny_field ho hd (x := .str x t) rfl ?_)
  show wpAny _ _ (field (.ref j) 1 >>= _) _ _ z
  refine wpAny_bind (wpAny_field ho hd (x := .int n 0) rfl ?_)
  simp only [Int.toNat_natCast, hx]
  refine wpAny_bind (wpAny_rule (wpAny_bind (wpAny_setField ho hd (by simp) (wpAny_bind (wpAny_letGo ?_)))))
  refine stop_new (x1 := x1) (hot_upd hot ho hd) fun e h' k ⟨oe, he, hce⟩ => ?_
  refine wpAny_bind (wpAny_isInstance (T := "StopIteration") (b := true) ⟨oe, he, hce⟩ isSubtype_stop ?_)
  exact wpAny_pure (hQ h' fun b u hb eb => k b u (by rw [Heap.get?_update_other _ _ (Ne.symm hb)]; exact eb))
end
theorem tq_wid {P : Program} {w : World} {K : PySem.W.Frag} {tg : Expr} (j : Addr) (x : Str) (t : Tok) : TurnQ P w K tg (Its x) [j] j (fun n h => h.IsStrIter j "str_iterator" x t n) where
  mem := (turn_str (P := P) (w := w) (K := K) (tg := tg) j x t "str_iterator" (.inr rfl)).mem
  obj := (turn_str (P := P) (w := w) (K := K) (tg := tg) j x t "str_iterator" (.inr rfl)).obj
  keep := (turn_str (P := P) (w := w) (K := K) (tg := tg) j x t "str_iterator" (.inr rfl)).keep
  self := (turn_str (P := P) (w := w) (K := K) (tg := tg) j x t "str_iterator" (.inr rfl)).self
  item := by
    intro Y hP hw hK n pins z τ H E I hf st hg
    subst hP hw hK
    obtain ⟨g0, g1, g2, g3, g4, g5⟩ := hf j (by simp)
    have hn : n < x.cps.size := hg
    refine wpAny_pyNext_wide_item st (c := x.cps[n]) (Array.getElem?_eq_getElem hn) fun h' st' sb => ?_
    have J1 : Inv Y pins τ H { z with heap := h', toks := z.toks + 1 } := I.turned (fun b o hb e => (sb.2 b hb).trans e) g0 g1 g3 g4 g5
    obtain ⟨oi, e, cc, dd⟩ := id st'
    exact ⟨_, rfl, go_of (s := { z with heap := h', toks := z.toks + 1 }) e cc dd (by decide) ⟨.str ⟨#[x.cps[n]]⟩, H, J1, ⟨_, rfl⟩, ⟨rfl, _, Array.getElem?_eq_getElem hn, rfl⟩, st', fun b hb => (hf b hb).1⟩⟩
  done := by
    intro Y hP hw hK n pins z τ H E hot I hf st hg
    subst hP hw hK
    obtain ⟨x1, hot⟩ := hot
    obtain ⟨g0, g1, g2, g3, g4, g5⟩ := hf j (by simp)
    exact next_wid_hot hot st (Array.getElem?_eq_none hg) fun h' eb => ⟨rfl, I.turned (t' := z.toks) (fun b o hb e => eb b o hb e) g0 g1 g3 g4 g5⟩
theorem piq_str {X : Cx} {tg e : Expr} {te : TE} (he : PE X e te) : PIQ X tg e (iStr te) := by
  refine ⟨fun pins s σ H R I h => ?_⟩
  refine thn (he.run pins s σ H _ I h) fun v s1 ⟨y, H1, I1, r1, x, ex, q⟩ => ?_
  subst ex
  obtain ⟨t, rfl⟩ := r1
  have fp : ∀ b ∈ [s1.heap.objs.size], FpOk X pins H1 b := fun b hb => by
    obtain rfl : b = s1.heap.objs.size := by simpa using hb
    exact I1.fpOk (Nat.le_refl _) (I1.hok.fresh (Nat.le_refl _))
  cases ha : x.cps.all (· < 128)
  · exact wpAny_pyIter_wide ha ⟨s1.heap.objs.size, _, _, _, H1, rfl, I1.kept (t' := s1.toks) fun b o e => Heap.get?_push_of_some _ e, tq_wid _ x t, ⟨_, Heap.get?_push_size _ rfl, rfl, rfl⟩, fp, q⟩
  · exact wpAny_pyIter_ascii ha ⟨s1.heap.objs.size, _, _, _, H1, rfl, I1.kept (t' := s1.toks) fun b o e => Heap.get?_push_of_some _ e, tq_asc _ x t, ⟨_, Heap.get?_push_size _ rfl, rfl, rfl⟩, fp, q⟩
/-! ### defs -/
theorem RoomH.units {k : Nat} {A : Around} (r : RoomH k A) : A.units + 64 < cLine := by have := r.un; omega
theorem hu_ofH {A : Around} {k : Nat} (hr : RoomH k A) : A.units + 1 < cLine := by have := hr.un; omega
theorem roomH_suite {k : Nat} {A : Around} {h : Option Value} (r : Room k A) : RoomH k (A.mark h) := ⟨r.dp, r.un⟩
theorem hotS {X : Cx} {a : Addr} {oe : Obj} {cls : Value} {d : Option Addr} {pn : List (Addr × Obj)} (hz : L2N.Zn cls d oe) (hf : ∃ vs, oe.data = .fields vs) : HotC (X.suite a ((a, oe) :: pn)) := by
  obtain ⟨vs, e⟩ := hf
  exact ⟨(a, oe), ⟨rfl, vs, e, hz.2.2 vs e⟩, List.mem_cons_self ..⟩
/-- with no showing under way -/
structure FnHG (P : Program) (w : World) (K : PySem.W.Frag) (mg : Str → Option Value) (base : Heap) (CX : CXT) (k : Nat) (f : Addr) (fd : FuncData) (ps : List Str) (sp : Sp) : Prop where
  len : ∀ vs H Q E, sp vs H Q E → vs.length = ps.length
  run : ∀ (A : Around) (outer : List Env) (s : Shared) (H : Hp) (args : Args) (us : List Value) (vs : List V) (Q : VK) (E : XK) (p : Addr × Obj), A.guards = some [] → RoomH k A → Hot1 A p → PinOk outer H s p → Env0 P w K mg base A outer s H → BindsTo s fd args (ps.zip us) → Vals vs us → sp vs H Q E →
    codeAny (model P w) A (.call (.ref f) args) (CR CX outer P w H s Q E) s
theorem fnHG_of {CX : CXT} {P : Program} {w : World} {K : PySem.W.Frag} {mg : Str → Option Value} {base : Heap} {k : Nat} {f : Addr} {name qual : Str} {params : Arguments} {body : List Stmt} {scope : Scope} {dV kV doc pm cdv ct oc : Value} {an od : Option Addr}
    {osl : Array (Option Value)} {N ps : List Str} {sp : Sp} (lk : K.lookup f = some ⟨oc, od, .func (PySem.W.fnOf name qual params body scope dV kV doc pm an cdv ct), osl⟩) (hcd : PySem.W.codeIn K cdv qual = true) (S : FnScope N ps scope)
    (len : ∀ vs H Q E, sp vs H Q E → vs.length = ps.length)
    (hbody : ∀ (A : Around) (outer : List Env) (s : Shared) (H : Hp) (vs : List V) (Q : VK) (E : XK) (p : Addr × Obj), A.guards = some [] → Hot1 A p → RoomH k (A.deeper (envOfC qual scope s.heap.objs.size f cdv)) → sp vs H Q E →
      ∃ t, PSs (cxH CX P w K mg base N qual scope f cdv A outer s H E p) body t ∧ t { nx := fun _ H' => Q .non H', rt := Q } (L2.start N vs) H) :
    FnHG P w K mg base CX (k + 1) f (PySem.W.fnOf name qual params body scope dV kV doc pm an cdv ct) ps sp := by
  refine ⟨len, fun A outer s H args us vs Q E p hgd hr hot hpin e0 hb r hsp => ?_⟩
  have hl := len _ _ _ _ hsp
  have KX : K.In s.heap := e0.mod.kin.keeps fun b o e => (e0.bs b o e).1
  have lim : s.heap.NoLimit := e0.mod.nolimit.keeps fun b o e => (e0.bs b o e).1
  have hkind : ∀ y ∈ ps.zip us, scope.names.lookup y.1 = some .local ∨ (scope.names.lookup y.1 = some .cell ∧ ((cellsFrom (s.heap.objs.size + 1) scope.names []).lookup y.1).isSome = true) := fun ⟨n, v⟩ hy => by
    rcases S.par n (List.of_mem_zip hy).1 with q | q
    · exact .inl q
    · exact .inr ⟨q, PySem.W.cellsFrom_some _ _ _ (.inl q)⟩
  refine codeAny_call_function hr.depth (KX _ _ lk) rfl S.co S.gen rfl (PySem.W.codeRec_of KX hcd) (hb _ _ _ _ ?_)
  refine wpAny_newFunctionEnv_cells S.kind hkind fun env he s1 x => ?_
  subst he
  refine ⟨lim.keeps x.toInCall.keep, codeAny_func ?_⟩
  obtain ⟨t, ht, hq⟩ := hbody A outer s H vs Q E p hgd hot (hr.deeper _) hsp
  have I : Inv (cxH CX P w K mg base N qual scope f cdv A outer s H E p) [] (L2.start N vs) H s1 := inv_startH S hpin e0 hl r x
  refine wpAny_mono (ht.run [] s1 (L2.start N vs) H _ I hq) (fun fl s' hs => ?_) fun e s' hs => hs
  have fin : ∀ {σ' : L2.St} {H' : Hp} {v : V} {u : Value}, Inv (cxH CX P w K mg base N qual scope f cdv A outer s H E p) [] σ' H' s' → RelV v u → Q v H' → CE outer P w H s Q u s' :=
    fun {σ' H' v u} J rv q => ⟨v, H', J.os, J.bare, J.base, J.hok, rv, q⟩
  cases fl with
  | ret u =>
    obtain ⟨v, σ', H', J, rv, q⟩ := hs
    exact fin J rv q
  | next =>
    obtain ⟨σ', H', J, q⟩ := hs
    exact fin (v := V.non) (u := Value.none) J rfl q
  | brk =>
    obtain ⟨_, _, _, q⟩ := hs
    exact False.elim q
  | cont =>
    obtain ⟨_, _, _, q⟩ := hs
    exact False.elim q
section
variable {P : Program} {w : World} {K : PySem.W.Frag} {mg : Str → Option Value} {base : Heap}
theorem okH {x qual : Str} {st : Stmt} {f : Addr} {fd : FuncData} {N ps : List Str} {k : Nat} {sp : Sp} (F : Fun K x qual st f fd) (S : FnScope N ps (defScope st)) (len : ∀ vs H Q E, sp vs H Q E → vs.length = ps.length)
    (hbody : ∀ (cdv : Value) (A : Around) (outer : List Env) (s : Shared) (H : Hp) (vs : List V) (Q : VK) (E : XK) (p : Addr × Obj), HotC (cxH CX0 P w K mg base N qual (defScope st) f cdv A outer s H E p).nox → RoomH k (A.deeper (envOfC qual (defScope st) s.heap.objs.size f cdv)) → sp vs H Q E →
      ∃ t, PSs (cxH CX0 P w K mg base N qual (defScope st) f cdv A outer s H E p).nox (defBody st) t ∧ t { nx := fun _ H' => Q .non H', rt := Q } (L2.start N vs) H) : FnH P w K mg base CX0 (k + 1) f fd ps sp := by
  obtain ⟨oc, od, kV, doc, pm, an, cdv, ct, osl, rfl, lk, hcd⟩ := F.ex
  refine fn_ofH lk hcd S len fun A outer s H vs Q E p hot hr hsp => ?_
  obtain ⟨t, h, q⟩ := hbody cdv A outer s H vs Q E p ⟨p, hot, List.mem_singleton_self _⟩ hr hsp
  exact ⟨t, h.nox, q⟩
theorem okHG {x qual : Str} {st : Stmt} {f : Addr} {fd : FuncData} {N ps : List Str} {k : Nat} {sp : Sp} (F : Fun K x qual st f fd) (S : FnScope N ps (defScope st)) (len : ∀ vs H Q E, sp vs H Q E → vs.length = ps.length)
    (hbody : ∀ (cdv : Value) (A : Around) (outer : List Env) (s : Shared) (H : Hp) (vs : List V) (Q : VK) (E : XK) (p : Addr × Obj), A.guards = some [] → HotC (cxH CX0 P w K mg base N qual (defScope st) f cdv A outer s H E p).nox → RoomH k (A.deeper (envOfC qual (defScope st) s.heap.objs.size f cdv)) → sp vs H Q E →
      ∃ t, PSs (cxH CX0 P w K mg base N qual (defScope st) f cdv A outer s H E p).nox (defBody st) t ∧ t { nx := fun _ H' => Q .non H', rt := Q } (L2.start N vs) H) : FnHG P w K mg base CX0 (k + 1) f fd ps sp := by
  obtain ⟨oc, od, kV, doc, pm, an, cdv, ct, osl, rfl, lk, hcd⟩ := F.ex
  refine fnHG_of lk hcd S len fun A outer s H vs Q E p hgd hot hr hsp => ?_
  obtain ⟨t, h, q⟩ := hbody cdv A outer s H vs Q E p hgd ⟨p, hot, List.mem_singleton_self _⟩ hr hsp
  exact ⟨t, h.nox, q⟩
end
section
variable {X : Cx} {k : Nat} {f : Addr} {fd : FuncData} {ps : List Str} {sp : Sp} {x : Str} {e : Expr} {es : List Expr} {t : TA} {p pos : Pos}
theorem pe_callH0 (F : FnH X.prog X.w X.K X.mg X.base CX0 k f fd ps sp) (hc : HotC X) (hr : RoomH k X.A) (hg : Gl X x) (hm : X.mg x = some (.ref f)) (hk : PySem.W.keepIn X.K (.ref f) = true) (hb : Binds X.K fd ps [])
    (ha : PA X (e :: es) t) (hdb : (x == ("__debug__" : Str)) = false := by decide) (he : starEach (e :: es) X.env = (false, eval e X.env) :: starEach es X.env := by rfl) (hpl : (backTo pos (starEach es X.env)).any (·.1) = false := by rfl) :
    PE X (.Call (.Name x p) (e :: es) [] pos) (tCall sp [] E0 t) := by
  refine ⟨fun pins s σ H Q I h => ?_⟩
  refine wpAny_Call_Name_kw (ld_glob I hg hm ?_ hdb)
  refine PySem.W.callWith_K (h₀ := X.base) I.ok.mod.kin hk (thn (ha.run pos pins s σ H _ I h) fun us s1 ⟨vs, H1, I1, r, q⟩ => ⟨I1.kIn, ?_⟩) he hpl
  have q' : sp (vs ++ []) H1 Q E0 := q
  rw [List.append_nil] at q'
  exact run_fnH (E := fun _ => E0) F hr hc hb (fun _ _ _ _ _ _ h => h.elim) I1 r q'
theorem run_fnHG {pins : List (Addr × Obj)} {σ : L2.St} {H : Hp} {s : Shared} {Q : VK} {us : List Value} {vs : List V} (F : FnHG X.prog X.w X.K X.mg X.base CX0 k f fd ps sp) (hgd : X.A.guards = some []) (hc : HotC X) (hr : RoomH k X.A) (hb : Binds X.K fd ps [])
    (I : Inv X pins σ H s) (r : Vals vs us) (h : sp vs H Q E0) : wpAny (model X.prog X.w) X.A (call (.ref f) us) (EP X pins σ Q) X.xe s := by
  obtain ⟨p, hot, hp⟩ := hc
  have hl : us.length = ps.length := by rw [← r.length]; exact F.len _ _ _ _ h
  have b := hb s us I.kIn (by rw [List.append_nil]; exact hl)
  rw [List.append_nil] at b
  have P1 := I.pin p (List.mem_append_left _ hp)
  have hpin : PinOk X.stack H s p := ⟨P1.1, P1.2.1, fun hm => (List.mem_cons.mp (I.stkSub p.1 hm)).elim P1.2.2.1 P1.2.2.2.1, P1.2.2.2.2⟩
  refine wpAny_call (codeAny_mono (F.run X.A X.stack s H ⟨us, []⟩ us vs Q E0 p hgd hr hot hpin I.env0 b r h) fun r s' hq => ?_)
  cases r with
  | error e => exact hq.elim
  | ok fl =>
    cases fl with
    | ret u => exact I.after hq
    | next => exact False.elim hq
    | brk => exact False.elim hq
    | cont => exact False.elim hq
theorem pe_callHG (F : FnHG X.prog X.w X.K X.mg X.base CX0 k f fd ps sp) (hgd : X.A.guards = some []) (hc : HotC X) (hr : RoomH k X.A) (hg : Gl X x) (hm : X.mg x = some (.ref f)) (hk : PySem.W.keepIn X.K (.ref f) = true) (hb : Binds X.K fd ps [])
    (ha : PA X (e :: es) t) (hdb : (x == ("__debug__" : Str)) = false := by decide) (he : starEach (e :: es) X.env = (false, eval e X.env) :: starEach es X.env := by rfl) (hpl : (backTo pos (starEach es X.env)).any (·.1) = false := by rfl) :
    PE X (.Call (.Name x p) (e :: es) [] pos) (tCall sp [] E0 t) := by
  refine ⟨fun pins s σ H Q I h => ?_⟩
  refine wpAny_Call_Name_kw (ld_glob I hg hm ?_ hdb)
  refine PySem.W.callWith_K (h₀ := X.base) I.ok.mod.kin hk (thn (ha.run pos pins s σ H _ I h) fun us s1 ⟨vs, H1, I1, r, q⟩ => ⟨I1.kIn, ?_⟩) he hpl
  have q' : sp (vs ++ []) H1 Q E0 := q
  rw [List.append_nil] at q'
  exact run_fnHG F hgd hc hr hb I1 r q'
end
end Way

namespace K01
open PySem L2 Way Evl
def top (i : Nat) : Stmt := PySem.Challenge.pw_waypairs_k01_fields_and_kinds_made.main.body.getD i (.Pass ⟨0, 0, 0, 0⟩)
abbrev s_BadField_init : Stmt := inClass (top 3) 0
abbrev N_BadField_init : List Str := ["self", "name", "__class__"]
abbrev P_BadField_init : List Str := ["self", "name"]
theorem sc_BadField_init : NdefX.NScope N_BadField_init P_BadField_init ["__class__"] (defScope s_BadField_init) := NdefX.nscope_by (by decide +kernel)
abbrev s_BadKind_init : Stmt := inClass (top 4) 0
abbrev N_BadKind_init : List Str := ["self", "name", "__class__"]
abbrev P_BadKind_init : List Str := ["self", "name"]
theorem sc_BadKind_init : NdefX.NScope N_BadKind_init P_BadKind_init ["__class__"] (defScope s_BadKind_init) := NdefX.nscope_by (by decide +kernel)
abbrev s_is_integer : Stmt := top 11
abbrev N_is_integer : List Str := ["thing"]
abbrev P_is_integer : List Str := ["thing"]
theorem sc_is_integer : FnScope N_is_integer P_is_integer (defScope s_is_integer) := ⟨rfl, rfl, rfl, by decide +kernel, rfl, by decide +kernel, by decide +kernel⟩
abbrev s_is_letters : Stmt := top 12
abbrev N_is_letters : List Str := ["text", "letter"]
abbrev P_is_letters : List Str := ["text"]
theorem sc_is_letters : FnScope N_is_letters P_is_letters (defScope s_is_letters) := ⟨rfl, rfl, rfl, by decide +kernel, rfl, by decide +kernel, by decide +kernel⟩
abbrev s_is_kind_name : Stmt := top 13
abbrev N_is_kind_name : List Str := ["thing"]
abbrev P_is_kind_name : List Str := ["thing"]
theorem sc_is_kind_name : FnScope N_is_kind_name P_is_kind_name (defScope s_is_kind_name) := ⟨rfl, rfl, rfl, by decide +kernel, rfl, by decide +kernel, by decide +kernel⟩
abbrev s_is_field_name : Stmt := top 14
abbrev N_is_field_name : List Str := ["thing"]
abbrev P_is_field_name : List Str := ["thing"]
theorem sc_is_field_name : FnScope N_is_field_name P_is_field_name (defScope s_is_field_name) := ⟨rfl, rfl, rfl, by decide +kernel, rfl, by decide +kernel, by decide +kernel⟩
abbrev s_is_target : Stmt := top 19
abbrev N_is_target : List Str := ["thing"]
abbrev P_is_target : List Str := ["thing"]
theorem sc_is_target : FnScope N_is_target P_is_target (defScope s_is_target) := ⟨rfl, rfl, rfl, by decide +kernel, rfl, by decide +kernel, by decide +kernel⟩
abbrev s_fits_mode : Stmt := top 20
abbrev N_fits_mode : List Str := ["mode", "target", "default"]
abbrev P_fits_mode : List Str := ["mode", "target", "default"]
theorem sc_fits_mode : FnScope N_fits_mode P_fits_mode (defScope s_fits_mode) := ⟨rfl, rfl, rfl, by decide +kernel, rfl, by decide +kernel, by decide +kernel⟩
abbrev s_are_elder_names : Stmt := top 21
abbrev N_are_elder_names : List Str := ["name", "was", "one"]
abbrev P_are_elder_names : List Str := ["name", "was"]
theorem sc_are_elder_names : FnScope N_are_elder_names P_are_elder_names (defScope s_are_elder_names) := ⟨rfl, rfl, rfl, by decide +kernel, rfl, by decide +kernel, by decide +kernel⟩
abbrev s_Field_init : Stmt := inClass (top 22) 0
abbrev N_Field_init : List Str := ["self", "name", "mode", "target", "default", "was"]
abbrev P_Field_init : List Str := ["self", "name", "mode", "target", "default", "was"]
theorem sc_Field_init : FnScope N_Field_init P_Field_init (defScope s_Field_init) := ⟨rfl, rfl, rfl, by decide +kernel, rfl, by decide +kernel, by decide +kernel⟩
abbrev s_Field_eq : Stmt := inClass (top 22) 1
abbrev N_Field_eq : List Str := ["self", "other"]
abbrev P_Field_eq : List Str := ["self", "other"]
theorem sc_Field_eq : FnScope N_Field_eq P_Field_eq (defScope s_Field_eq) := ⟨rfl, rfl, rfl, by decide +kernel, rfl, by decide +kernel, by decide +kernel⟩
abbrev s_are_fields : Stmt := top 23
abbrev N_are_fields : List Str := ["thing", "most", "one"]
abbrev P_are_fields : List Str := ["thing", "most"]
theorem sc_are_fields : FnScope N_are_fields P_are_fields (defScope s_are_fields) := ⟨rfl, rfl, rfl, by decide +kernel, rfl, by decide +kernel, by decide +kernel⟩
abbrev s_fits_flags : Stmt := top 24
abbrev N_fits_flags : List Str := ["frozen", "heirs", "registered"]
abbrev P_fits_flags : List Str := ["frozen", "heirs", "registered"]
theorem sc_fits_flags : FnScope N_fits_flags P_fits_flags (defScope s_fits_flags) := ⟨rfl, rfl, rfl, by decide +kernel, rfl, by decide +kernel, by decide +kernel⟩
abbrev s_Kind_init : Stmt := inClass (top 25) 0
abbrev N_Kind_init : List Str := ["self", "name", "fields", "base", "frozen", "heirs", "key", "registered"]
abbrev P_Kind_init : List Str := ["self", "name", "fields", "base", "frozen", "heirs", "key", "registered"]
theorem sc_Kind_init : FnScope N_Kind_init P_Kind_init (defScope s_Kind_init) := ⟨rfl, rfl, rfl, by decide +kernel, rfl, by decide +kernel, by decide +kernel⟩
abbrev s_Kind_eq : Stmt := inClass (top 25) 1
abbrev N_Kind_eq : List Str := ["self", "other"]
abbrev P_Kind_eq : List Str := ["self", "other"]
theorem sc_Kind_eq : FnScope N_Kind_eq P_Kind_eq (defScope s_Kind_eq) := ⟨rfl, rfl, rfl, by decide +kernel, rfl, by decide +kernel, by decide +kernel⟩
abbrev s_pen : Stmt := top 30
abbrev N_pen : List Str := ["_law_script", "_law_total", "_law_cell"]
abbrev P_pen : List Str := ["_law_script"]
theorem sc_pen : FnScope N_pen P_pen (defScope s_pen) := ⟨rfl, rfl, rfl, by decide +kernel, rfl, by decide +kernel, by decide +kernel⟩
abbrev s_take : Stmt := top 31
abbrev N_take : List Str := ["_law_pen_here", "_law_bound", "_law_cell", "_law_mixed", "_law_digit"]
abbrev P_take : List Str := ["_law_pen_here", "_law_bound"]
theorem sc_take : FnScope N_take P_take (defScope s_take) := ⟨rfl, rfl, rfl, by decide +kernel, rfl, by decide +kernel, by decide +kernel⟩
abbrev s_one_of : Stmt := top 32
abbrev N_one_of : List Str := ["_law_pen_here", "_law_menu"]
abbrev P_one_of : List Str := ["_law_pen_here", "_law_menu"]
theorem sc_one_of : FnScope N_one_of P_one_of (defScope s_one_of) := ⟨rfl, rfl, rfl, by decide +kernel, rfl, by decide +kernel, by decide +kernel⟩
abbrev s_l_is_integer : Stmt := top 33
abbrev N_l_is_integer : List Str := ["_law_thing"]
abbrev P_l_is_integer : List Str := ["_law_thing"]
theorem sc_l_is_integer : FnScope N_l_is_integer P_l_is_integer (defScope s_l_is_integer) := ⟨rfl, rfl, rfl, by decide +kernel, rfl, by decide +kernel, by decide +kernel⟩
abbrev s_word : Stmt := top 34
abbrev N_word : List Str := ["_law_pen_here", "_law_place", "_law_index", "_law_plain", "_law_most", "_law_letters_here", "_law_size", "_law_word_here", "_law_k"]
abbrev P_word : List Str := ["_law_pen_here", "_law_place", "_law_index", "_law_plain", "_law_most"]
theorem sc_word : FnScope N_word P_word (defScope s_word) := ⟨rfl, rfl, rfl, by decide +kernel, rfl, by decide +kernel, by decide +kernel⟩
abbrev s_words : Stmt := top 35
abbrev N_words : List Str := ["_law_pen_here", "_law_count", "_law_most", "_law_plain", "_law_place", "_law_offset", "_law_k"]
abbrev P_words : List Str := ["_law_pen_here", "_law_count", "_law_most"]
theorem sc_words : FnScope N_words P_words (defScope s_words) := ⟨rfl, rfl, rfl, by decide +kernel, rfl, by decide +kernel, by decide +kernel⟩
abbrev s_kind_names : Stmt := top 36
abbrev N_kind_names : List Str := ["_law_pen_here", "_law_count", "_law_word_here"]
abbrev P_kind_names : List Str := ["_law_pen_here", "_law_count"]
theorem sc_kind_names : FnScope N_kind_names P_kind_names (defScope s_kind_names) := ⟨rfl, rfl, rfl, by decide +kernel, rfl, by decide +kernel, by decide +kernel⟩
abbrev s_odd : Stmt := top 37
abbrev N_odd : List Str := ["_law_pen_here", "_law_menu"]
abbrev P_odd : List Str := ["_law_pen_here"]
theorem sc_odd : FnScope N_odd P_odd (defScope s_odd) := ⟨rfl, rfl, rfl, by decide +kernel, rfl, by decide +kernel, by decide +kernel⟩
abbrev s_same : Stmt := top 38
abbrev N_same : List Str := ["_law_one", "_law_other"]
abbrev P_same : List Str := ["_law_one", "_law_other"]
theorem sc_same : FnScope N_same P_same (defScope s_same) := ⟨rfl, rfl, rfl, by decide +kernel, rfl, by decide +kernel, by decide +kernel⟩
abbrev s_letters : Stmt := top 39
abbrev N_letters : List Str := ["_law_text", "_law_sign"]
abbrev P_letters : List Str := ["_law_text"]
theorem sc_letters : FnScope N_letters P_letters (defScope s_letters) := ⟨rfl, rfl, rfl, by decide +kernel, rfl, by decide +kernel, by decide +kernel⟩
abbrev s_l_is_field_name : Stmt := top 40
abbrev N_l_is_field_name : List Str := ["_law_thing"]
abbrev P_l_is_field_name : List Str := ["_law_thing"]
theorem sc_l_is_field_name : FnScope N_l_is_field_name P_l_is_field_name (defScope s_l_is_field_name) := ⟨rfl, rfl, rfl, by decide +kernel, rfl, by decide +kernel, by decide +kernel⟩
abbrev s_l_is_kind_name : Stmt := top 41
abbrev N_l_is_kind_name : List Str := ["_law_thing"]
abbrev P_l_is_kind_name : List Str := ["_law_thing"]
theorem sc_l_is_kind_name : FnScope N_l_is_kind_name P_l_is_kind_name (defScope s_l_is_kind_name) := ⟨rfl, rfl, rfl, by decide +kernel, rfl, by decide +kernel, by decide +kernel⟩
abbrev s_elder : Stmt := top 42
abbrev N_elder : List Str := ["_law_pen_here", "_law_name", "_law_pool", "_law_start", "_law_first", "_law_second", "_law_third", "_law_menu"]
abbrev P_elder : List Str := ["_law_pen_here", "_law_name", "_law_pool"]
theorem sc_elder : FnScope N_elder P_elder (defScope s_elder) := ⟨rfl, rfl, rfl, by decide +kernel, rfl, by decide +kernel, by decide +kernel⟩
abbrev s_field_parts : Stmt := top 43
abbrev N_field_parts : List Str := ["_law_pen_here", "_law_names", "_law_pool", "_law_spoils", "_law_name", "_law_mode", "_law_own_target", "_law_own_default", "_law_parts", "_law_k"]
abbrev P_field_parts : List Str := ["_law_pen_here", "_law_names", "_law_pool", "_law_spoils"]
theorem sc_field_parts : FnScope N_field_parts P_field_parts (defScope s_field_parts) := ⟨rfl, rfl, rfl, by decide +kernel, rfl, by decide +kernel, by decide +kernel⟩
abbrev s_elder_right : Stmt := top 44
abbrev N_elder_right : List Str := ["_law_name", "_law_own_was", "_law_one"]
abbrev P_elder_right : List Str := ["_law_name", "_law_own_was"]
theorem sc_elder_right : FnScope N_elder_right P_elder_right (defScope s_elder_right) := ⟨rfl, rfl, rfl, by decide +kernel, rfl, by decide +kernel, by decide +kernel⟩
abbrev s_field_right : Stmt := top 45
abbrev N_field_right : List Str := ["_law_parts", "_law_name", "_law_mode", "_law_own_target", "_law_own_default", "_law_own_was"]
abbrev P_field_right : List Str := ["_law_parts"]
theorem sc_field_right : FnScope N_field_right P_field_right (defScope s_field_right) := ⟨rfl, rfl, rfl, by decide +kernel, rfl, by decide +kernel, by decide +kernel⟩
abbrev s_field_told : Stmt := top 46
abbrev N_field_told : List Str := ["_law_parts", "_law_short", "_law_field", "e"]
abbrev P_field_told : List Str := ["_law_parts", "_law_short"]
theorem sc_field_told : FnScope N_field_told P_field_told (defScope s_field_told) := ⟨rfl, rfl, rfl, by decide +kernel, rfl, by decide +kernel, by decide +kernel⟩
abbrev s_field_due : Stmt := top 47
abbrev N_field_due : List Str := ["_law_parts"]
abbrev P_field_due : List Str := ["_law_parts"]
theorem sc_field_due : FnScope N_field_due P_field_due (defScope s_field_due) := ⟨rfl, rfl, rfl, by decide +kernel, rfl, by decide +kernel, by decide +kernel⟩
abbrev s_made_field : Stmt := top 48
abbrev N_made_field : List Str := ["_law_parts"]
abbrev P_made_field : List Str := ["_law_parts"]
theorem sc_made_field : FnScope N_made_field P_made_field (defScope s_made_field) := ⟨rfl, rfl, rfl, by decide +kernel, rfl, by decide +kernel, by decide +kernel⟩
abbrev s_fields_asked : Stmt := top 49
abbrev N_fields_asked : List Str := ["_law_pen_here", "_law_names", "_law_pool", "_law_parts", "_law_short", "_law_again", "_law_at", "_law_one", "_law_other", "_law_due"]
abbrev P_fields_asked : List Str := ["_law_pen_here", "_law_names", "_law_pool"]
theorem sc_fields_asked : FnScope N_fields_asked P_fields_asked (defScope s_fields_asked) := ⟨rfl, rfl, rfl, by decide +kernel, rfl, by decide +kernel, by decide +kernel⟩
abbrev s_right_fields : Stmt := top 50
abbrev N_right_fields : List Str := ["_law_pen_here", "_law_names", "_law_pool", "_law_count", "_law_shift", "_law_turned", "_law_found", "_law_k", "_law_parts"]
abbrev P_right_fields : List Str := ["_law_pen_here", "_law_names", "_law_pool", "_law_count"]
theorem sc_right_fields : FnScope N_right_fields P_right_fields (defScope s_right_fields) := ⟨rfl, rfl, rfl, by decide +kernel, rfl, by decide +kernel, by decide +kernel⟩
abbrev s_kind_parts : Stmt := top 51
abbrev N_kind_parts : List Str := ["_law_pen_here", "_law_names", "_law_pool", "_law_name", "_law_count", "_law_fields", "_law_own_base", "_law_own_frozen", "_law_own_heirs", "_law_own_key", "_law_parts", "_law_k"]
abbrev P_kind_parts : List Str := ["_law_pen_here", "_law_names", "_law_pool"]
theorem sc_kind_parts : FnScope N_kind_parts P_kind_parts (defScope s_kind_parts) := ⟨rfl, rfl, rfl, by decide +kernel, rfl, by decide +kernel, by decide +kernel⟩
abbrev s_kind_right : Stmt := top 52
abbrev N_kind_right : List Str := ["_law_parts", "_law_name", "_law_fields", "_law_own_base", "_law_own_frozen", "_law_own_heirs", "_law_own_key", "_law_own_registered", "_law_names", "_law_field", "_law_one"]
abbrev P_kind_right : List Str := ["_law_parts"]
theorem sc_kind_right : FnScope N_kind_right P_kind_right (defScope s_kind_right) := ⟨rfl, rfl, rfl, by decide +kernel, rfl, by decide +kernel, by decide +kernel⟩
abbrev s_kind_made : Stmt := top 53
abbrev N_kind_made : List Str := ["_law_parts", "_law_name", "_law_fields", "_law_own_base", "_law_own_frozen", "_law_own_heirs", "_law_own_key", "_law_own_registered"]
abbrev P_kind_made : List Str := ["_law_parts"]
theorem sc_kind_made : FnScope N_kind_made P_kind_made (defScope s_kind_made) := ⟨rfl, rfl, rfl, by decide +kernel, rfl, by decide +kernel, by decide +kernel⟩
abbrev s_kind_told : Stmt := top 54
abbrev N_kind_told : List Str := ["_law_parts", "_law_handed", "_law_kind", "e", "_law_told", "_law_k"]
abbrev P_kind_told : List Str := ["_law_parts", "_law_handed"]
theorem sc_kind_told : FnScope N_kind_told P_kind_told (defScope s_kind_told) := ⟨rfl, rfl, rfl, by decide +kernel, rfl, by decide +kernel, by decide +kernel⟩
abbrev s_kinds_asked : Stmt := top 55
abbrev N_kinds_asked : List Str := ["_law_pen_here", "_law_names", "_law_pool", "_law_parts", "_law_again", "_law_handed", "_law_at", "_law_alike", "_law_one", "_law_other"]
abbrev P_kinds_asked : List Str := ["_law_pen_here", "_law_names", "_law_pool"]
theorem sc_kinds_asked : FnScope N_kinds_asked P_kinds_asked (defScope s_kinds_asked) := ⟨rfl, rfl, rfl, by decide +kernel, rfl, by decide +kernel, by decide +kernel⟩
abbrev s_law : Stmt := top 56
abbrev N_law : List Str := ["_law_script", "_law_pen_here", "_law_names", "_law_pool", "_law_turn", "_law_plain"]
abbrev P_law : List Str := ["_law_script"]
theorem sc_law : FnScope N_law P_law (defScope s_law) := ⟨rfl, rfl, rfl, by decide +kernel, rfl, by decide +kernel, by decide +kernel⟩
structure Txt (P : Program) (K : PySem.W.Frag) (mg : Str → Option Value) where
  f_BadField_init : Addr
  d_BadField_init : FuncData
  c_BadField_init : Addr
  cc_BadField_init : Addr
  B_BadField_init : Binds K d_BadField_init P_BadField_init []
  f_BadKind_init : Addr
  d_BadKind_init : FuncData
  c_BadKind_init : Addr
  cc_BadKind_init : Addr
  B_BadKind_init : Binds K d_BadKind_init P_BadKind_init []
  f_is_integer : Addr
  d_is_integer : FuncData
  F_is_integer : Fun K "is_integer" "is_integer" s_is_integer f_is_integer d_is_integer
  B_is_integer : Binds K d_is_integer P_is_integer []
  g_is_integer : mg "is_integer" = some (.ref f_is_integer)
  f_is_letters : Addr
  d_is_letters : FuncData
  F_is_letters : Fun K "is_letters" "is_letters" s_is_letters f_is_letters d_is_letters
  B_is_letters : Binds K d_is_letters P_is_letters []
  g_is_letters : mg "is_letters" = some (.ref f_is_letters)
  f_is_kind_name : Addr
  d_is_kind_name : FuncData
  F_is_kind_name : Fun K "is_kind_name" "is_kind_name" s_is_kind_name f_is_kind_name d_is_kind_name
  B_is_kind_name : Binds K d_is_kind_name P_is_kind_name []
  g_is_kind_name : mg "is_kind_name" = some (.ref f_is_kind_name)
  f_is_field_name : Addr
  d_is_field_name : FuncData
  F_is_field_name : Fun K "is_field_name" "is_field_name" s_is_field_name f_is_field_name d_is_field_name
  B_is_field_name : Binds K d_is_field_name P_is_field_name []
  g_is_field_name : mg "is_field_name" = some (.ref f_is_field_name)
  f_is_target : Addr
  d_is_target : FuncData
  F_is_target : Fun K "is_target" "is_target" s_is_target f_is_target d_is_target
  B_is_target : Binds K d_is_target P_is_target []
  g_is_target : mg "is_target" = some (.ref f_is_target)
  f_fits_mode : Addr
  d_fits_mode : FuncData
  F_fits_mode : Fun K "fits_mode" "fits_mode" s_fits_mode f_fits_mode d_fits_mode
  B_fits_mode : Binds K d_fits_mode P_fits_mode []
  g_fits_mode : mg "fits_mode" = some (.ref f_fits_mode)
  f_are_elder_names : Addr
  d_are_elder_names : FuncData
  F_are_elder_names : Fun K "are_elder_names" "are_elder_names" s_are_elder_names f_are_elder_names d_are_elder_names
  B_are_elder_names : Binds K d_are_elder_names P_are_elder_names []
  g_are_elder_names : mg "are_elder_names" = some (.ref f_are_elder_names)
  f_Field_init : Addr
  d_Field_init : FuncData
  e0_Field_init : Addr
  et_Field_init : ∀ H, SqT K H e0_Field_init []
  F_Field_init : FunD K "__init__" "Field.__init__" (defArgs s_Field_init) (defBody s_Field_init) (defScope s_Field_init) [] [("target", .non), ("default", .int 0), ("was", .ref e0_Field_init)] f_Field_init d_Field_init
  f_Field_eq : Addr
  d_Field_eq : FuncData
  F_Field_eq : Fun K "__eq__" "Field.__eq__" s_Field_eq f_Field_eq d_Field_eq
  B_Field_eq : Binds K d_Field_eq P_Field_eq []
  f_are_fields : Addr
  d_are_fields : FuncData
  F_are_fields : Fun K "are_fields" "are_fields" s_are_fields f_are_fields d_are_fields
  B_are_fields : Binds K d_are_fields P_are_fields []
  g_are_fields : mg "are_fields" = some (.ref f_are_fields)
  f_fits_flags : Addr
  d_fits_flags : FuncData
  F_fits_flags : Fun K "fits_flags" "fits_flags" s_fits_flags f_fits_flags d_fits_flags
  B_fits_flags : Binds K d_fits_flags P_fits_flags []
  g_fits_flags : mg "fits_flags" = some (.ref f_fits_flags)
  f_Kind_init : Addr
  d_Kind_init : FuncData
  F_Kind_init : FunD K "__init__" "Kind.__init__" (defArgs s_Kind_init) (defBody s_Kind_init) (defScope s_Kind_init) [] [("base", .non), ("frozen", .bl false), ("heirs", .bl false), ("key", .non), ("registered", .bl false)] f_Kind_init d_Kind_init
  f_Kind_eq : Addr
  d_Kind_eq : FuncData
  F_Kind_eq : Fun K "__eq__" "Kind.__eq__" s_Kind_eq f_Kind_eq d_Kind_eq
  B_Kind_eq : Binds K d_Kind_eq P_Kind_eq []
  f_pen : Addr
  d_pen : FuncData
  F_pen : Fun K "_law_pen" "_law_pen" s_pen f_pen d_pen
  B_pen : Binds K d_pen P_pen []
  g_pen : mg "_law_pen" = some (.ref f_pen)
  f_take : Addr
  d_take : FuncData
  F_take : Fun K "_law_take" "_law_take" s_take f_take d_take
  B_take : Binds K d_take P_take []
  g_take : mg "_law_take" = some (.ref f_take)
  f_one_of : Addr
  d_one_of : FuncData
  F_one_of : Fun K "_law_one_of" "_law_one_of" s_one_of f_one_of d_one_of
  B_one_of : Binds K d_one_of P_one_of []
  g_one_of : mg "_law_one_of" = some (.ref f_one_of)
  f_l_is_integer : Addr
  d_l_is_integer : FuncData
  F_l_is_integer : Fun K "_law_is_integer" "_law_is_integer" s_l_is_integer f_l_is_integer d_l_is_integer
  B_l_is_integer : Binds K d_l_is_integer P_l_is_integer []
  g_l_is_integer : mg "_law_is_integer" = some (.ref f_l_is_integer)
  f_word : Addr
  d_word : FuncData
  F_word : Fun K "_law_word" "_law_word" s_word f_word d_word
  B_word : Binds K d_word P_word []
  g_word : mg "_law_word" = some (.ref f_word)
  f_words : Addr
  d_words : FuncData
  F_words : Fun K "_law_words" "_law_words" s_words f_words d_words
  B_words : Binds K d_words P_words []
  g_words : mg "_law_words" = some (.ref f_words)
  f_kind_names : Addr
  d_kind_names : FuncData
  F_kind_names : Fun K "_law_kind_names" "_law_kind_names" s_kind_names f_kind_names d_kind_names
  B_kind_names : Binds K d_kind_names P_kind_names []
  g_kind_names : mg "_law_kind_names" = some (.ref f_kind_names)
  f_odd : Addr
  d_odd : FuncData
  F_odd : Fun K "_law_odd" "_law_odd" s_odd f_odd d_odd
  B_odd : Binds K d_odd P_odd []
  g_odd : mg "_law_odd" = some (.ref f_odd)
  f_same : Addr
  d_same : FuncData
  F_same : Fun K "_law_same" "_law_same" s_same f_same d_same
  B_same : Binds K d_same P_same []
  g_same : mg "_law_same" = some (.ref f_same)
  f_letters : Addr
  d_letters : FuncData
  F_letters : Fun K "_law_letters" "_law_letters" s_letters f_letters d_letters
  B_letters : Binds K d_letters P_letters []
  g_letters : mg "_law_letters" = some (.ref f_letters)
  f_l_is_field_name : Addr
  d_l_is_field_name : FuncData
  F_l_is_field_name : Fun K "_law_is_field_name" "_law_is_field_name" s_l_is_field_name f_l_is_field_name d_l_is_field_name
  B_l_is_field_name : Binds K d_l_is_field_name P_l_is_field_name []
  g_l_is_field_name : mg "_law_is_field_name" = some (.ref f_l_is_field_name)
  f_l_is_kind_name : Addr
  d_l_is_kind_name : FuncData
  F_l_is_kind_name : Fun K "_law_is_kind_name" "_law_is_kind_name" s_l_is_kind_name f_l_is_kind_name d_l_is_kind_name
  B_l_is_kind_name : Binds K d_l_is_kind_name P_l_is_kind_name []
  g_l_is_kind_name : mg "_law_is_kind_name" = some (.ref f_l_is_kind_name)
  f_elder : Addr
  d_elder : FuncData
  F_elder : Fun K "_law_elder" "_law_elder" s_elder f_elder d_elder
  B_elder : Binds K d_elder P_elder []
  g_elder : mg "_law_elder" = some (.ref f_elder)
  f_field_parts : Addr
  d_field_parts : FuncData
  F_field_parts : Fun K "_law_field_parts" "_law_field_parts" s_field_parts f_field_parts d_field_parts
  B_field_parts : Binds K d_field_parts P_field_parts []
  g_field_parts : mg "_law_field_parts" = some (.ref f_field_parts)
  f_elder_right : Addr
  d_elder_right : FuncData
  F_elder_right : Fun K "_law_elder_right" "_law_elder_right" s_elder_right f_elder_right d_elder_right
  B_elder_right : Binds K d_elder_right P_elder_right []
  g_elder_right : mg "_law_elder_right" = some (.ref f_elder_right)
  f_field_right : Addr
  d_field_right : FuncData
  F_field_right : Fun K "_law_field_right" "_law_field_right" s_field_right f_field_right d_field_right
  B_field_right : Binds K d_field_right P_field_right []
  g_field_right : mg "_law_field_right" = some (.ref f_field_right)
  f_field_told : Addr
  d_field_told : FuncData
  F_field_told : Fun K "_law_field_told" "_law_field_told" s_field_told f_field_told d_field_told
  B_field_told : Binds K d_field_told P_field_told []
  g_field_told : mg "_law_field_told" = some (.ref f_field_told)
  f_field_due : Addr
  d_field_due : FuncData
  F_field_due : Fun K "_law_field_due" "_law_field_due" s_field_due f_field_due d_field_due
  B_field_due : Binds K d_field_due P_field_due []
  g_field_due : mg "_law_field_due" = some (.ref f_field_due)
  f_made_field : Addr
  d_made_field : FuncData
  F_made_field : Fun K "_law_made_field" "_law_made_field" s_made_field f_made_field d_made_field
  B_made_field : Binds K d_made_field P_made_field []
  g_made_field : mg "_law_made_field" = some (.ref f_made_field)
  f_fields_asked : Addr
  d_fields_asked : FuncData
  F_fields_asked : Fun K "_law_fields_asked" "_law_fields_asked" s_fields_asked f_fields_asked d_fields_asked
  B_fields_asked : Binds K d_fields_asked P_fields_asked []
  g_fields_asked : mg "_law_fields_asked" = some (.ref f_fields_asked)
  f_right_fields : Addr
  d_right_fields : FuncData
  F_right_fields : Fun K "_law_right_fields" "_law_right_fields" s_right_fields f_right_fields d_right_fields
  B_right_fields : Binds K d_right_fields P_right_fields []
  g_right_fields : mg "_law_right_fields" = some (.ref f_right_fields)
  f_kind_parts : Addr
  d_kind_parts : FuncData
  F_kind_parts : Fun K "_law_kind_parts" "_law_kind_parts" s_kind_parts f_kind_parts d_kind_parts
  B_kind_parts : Binds K d_kind_parts P_kind_parts []
  g_kind_parts : mg "_law_kind_parts" = some (.ref f_kind_parts)
  f_kind_right : Addr
  d_kind_right : FuncData
  F_kind_right : Fun K "_law_kind_right" "_law_kind_right" s_kind_right f_kind_right d_kind_right
  B_kind_right : Binds K d_kind_right P_kind_right []
  g_kind_right : mg "_law_kind_right" = some (.ref f_kind_right)
  f_kind_made : Addr
  d_kind_made : FuncData
  F_kind_made : Fun K "_law_kind_made" "_law_kind_made" s_kind_made f_kind_made d_kind_made
  B_kind_made : Binds K d_kind_made P_kind_made []
  g_kind_made : mg "_law_kind_made" = some (.ref f_kind_made)
  f_kind_told : Addr
  d_kind_told : FuncData
  F_kind_told : Fun K "_law_kind_told" "_law_kind_told" s_kind_told f_kind_told d_kind_told
  B_kind_told : Binds K d_kind_told P_kind_told []
  g_kind_told : mg "_law_kind_told" = some (.ref f_kind_told)
  f_kinds_asked : Addr
  d_kinds_asked : FuncData
  F_kinds_asked : Fun K "_law_kinds_asked" "_law_kinds_asked" s_kinds_asked f_kinds_asked d_kinds_asked
  B_kinds_asked : Binds K d_kinds_asked P_kinds_asked []
  g_kinds_asked : mg "_law_kinds_asked" = some (.ref f_kinds_asked)
  f_law : Addr
  d_law : FuncData
  F_law : Fun K "law" "law" s_law f_law d_law
  B_law : Binds K d_law P_law []
  g_law : mg "law" = some (.ref f_law)
  C_WayError : Addr
  g_WayError : mg "WayError" = some (.ref C_WayError)
  nsp_WayError : Addr
  r_WayError : Way.XRoot K C_WayError nsp_WayError
  C_BadField : Addr
  g_BadField : mg "BadField" = some (.ref C_BadField)
  nsp_BadField : Addr
  X_BadField : Way.XCls K "BadField" C_BadField nsp_BadField C_WayError
  S_BadField : Way.SupFn K P "__init__" "BadField.__init__" s_BadField_init f_BadField_init d_BadField_init C_BadField c_BadField_init cc_BadField_init
  i_BadField : PySem.W.findIn K (.ref C_BadField) "__init__" = some (some (.ref f_BadField_init))
  t_BadField : PySem.W.typeIn K (.ref f_BadField_init) = some (.type "function")
  na_BadField_name : PySem.W.findIn K (.ref C_BadField) "name" = some none
  C_BadKind : Addr
  g_BadKind : mg "BadKind" = some (.ref C_BadKind)
  nsp_BadKind : Addr
  X_BadKind : Way.XCls K "BadKind" C_BadKind nsp_BadKind C_WayError
  S_BadKind : Way.SupFn K P "__init__" "BadKind.__init__" s_BadKind_init f_BadKind_init d_BadKind_init C_BadKind c_BadKind_init cc_BadKind_init
  i_BadKind : PySem.W.findIn K (.ref C_BadKind) "__init__" = some (some (.ref f_BadKind_init))
  t_BadKind : PySem.W.typeIn K (.ref f_BadKind_init) = some (.type "function")
  na_BadKind_name : PySem.W.findIn K (.ref C_BadKind) "name" = some none
  C_Field : Addr
  g_Field : mg "Field" = some (.ref C_Field)
  cl_Field : Cls K C_Field
  M_Field : Mk K C_Field f_Field_init
  na_Field_name : NoAttr K C_Field "name"
  na_Field_mode : NoAttr K C_Field "mode"
  na_Field_target : NoAttr K C_Field "target"
  na_Field_default : NoAttr K C_Field "default"
  na_Field_was : NoAttr K C_Field "was"
  m_Field_eq : Meth K C_Field "__eq__" f_Field_eq
  ic_Field : Way.InsC K C_Field
  C_Kind : Addr
  g_Kind : mg "Kind" = some (.ref C_Kind)
  cl_Kind : Cls K C_Kind
  M_Kind : Mk K C_Kind f_Kind_init
  na_Kind_name : NoAttr K C_Kind "name"
  na_Kind_fields : NoAttr K C_Kind "fields"
  na_Kind_base : NoAttr K C_Kind "base"
  na_Kind_frozen : NoAttr K C_Kind "frozen"
  na_Kind_heirs : NoAttr K C_Kind "heirs"
  na_Kind_key : NoAttr K C_Kind "key"
  na_Kind_registered : NoAttr K C_Kind "registered"
  m_Kind_eq : Meth K C_Kind "__eq__" f_Kind_eq
  ic_Kind : Way.InsC K C_Kind
  C_House : Addr
  g_House : mg "House" = some (.ref C_House)
  cl_House : Cls K C_House
  cr_House : ClX.CRead K C_House (.type "type")
  tk_House_KINDS : Tok
  cv_House_KINDS : ClX.CVal K C_House (.type "type") "KINDS" (.int 12) (.int 12 tk_House_KINDS)
  tk_House_FIELDS : Tok
  cv_House_FIELDS : ClX.CVal K C_House (.type "type") "FIELDS" (.int 10) (.int 10 tk_House_FIELDS)
  xall : Way.XAll K
  tk_CAPITALS : Tok
  g_CAPITALS : mg "CAPITALS" = some (.str "ABCDEFGHIJKLMNOPQRSTUVWXYZ" tk_CAPITALS)
  tk_LETTERS : Tok
  g_LETTERS : mg "LETTERS" = some (.str "abcdefghijklmnopqrstuvwxyz" tk_LETTERS)
  tk_MOST_DEFAULT : Tok
  g_MOST_DEFAULT : mg "MOST_DEFAULT" = some (.int 1000000000000 tk_MOST_DEFAULT)
  tk_ANY : Tok
  g_ANY : mg "ANY" = some (.str "any" tk_ANY)
  w_MODES : Addr
  g_MODES : mg "MODES" = some (.ref w_MODES)
  ct_MODES : ∀ H, SqT K H w_MODES [.str "mark", .str "link", .str "list"]
  tk_MOST_WAS : Tok
  g_MOST_WAS : mg "MOST_WAS" = some (.int 2 tk_MOST_WAS)
  b_ValueError : mg "ValueError" = none
  b_all : mg "all" = none
  b_range : mg "range" = none
  b_list : mg "list" = none
  b_isinstance : mg "isinstance" = none
  b_int : mg "int" = none
  b_str : mg "str" = none
  b_tuple : mg "tuple" = none
  b_len : mg "len" = none
  b_bool : mg "bool" = none
  b_any : mg "any" = none
  b_TypeError : mg "TypeError" = none
  b_repr : mg "repr" = none
  b_set : mg "set" = none
  b_super : mg "super" = none
theorem hu65 {A : Around} {k : Nat} (hr : Room k A) : A.units + 65 < cLine := by have := hr.un; omega
theorem hu66 {A : Around} {k : Nat} (hr : Room k A) : A.units + 66 < cLine := by have := hr.un; omega
/-! the pen -/
def spPen (K : PySem.W.Frag) : Sp := fun vs H Q _ => ∃ (a : Addr) (ns : List Int), vs = [.ref a] ∧ SqL K H a (ns.map V.int) ∧ ns.length ≤ 63 ∧ ∀ H' p c, Same H H' → H p = none → H c = none → Pen H' p c 0 → Q (.ref p) H'
def spTake : Sp := fun vs H Q _ => ∃ (p c : Addr) (m : Int) (k : Nat), vs = [.ref p, .int m] ∧ Pen H p c k ∧ k ≤ 100000 ∧ 0 < m ∧ m ≤ 10000000000000000 ∧ ∀ H' d, Kp p H H' → Pen H' p c (k + 1) → 0 ≤ d → d < m → Q (.int d) H'
theorem at_int {l : List Int} {i : Nat} {y : V} (e : (l.map V.int)[i]? = some y) : ∃ b, l[i]? = some b ∧ y = V.int b := by
  rw [List.getElem?_map] at e
  cases q : l[i]? with
  | none => rw [q] at e; cases e
  | some b => rw [q] at e; exact ⟨b, rfl, (Option.some.inj e).symm⟩
section
variable {P : Program} {w : World} {K : PySem.W.Frag} {mg : Str → Option Value} {base : Heap}
theorem rc_int1 {H : Hp} {i : Int} : RC (fun xs H Q => (∃ i, xs = [V.int i] ∧ Q (.int i) H) ∨ ∃ b, xs = [V.bl b] ∧ Q (.int (if b then 1 else 0)) H) [.int i] H (.int i) := fun H2 _ _ q => .inl ⟨_, rfl, q H2 (Ex.refl H2)⟩
theorem ok_pen (T : Txt P K mg) : FnOk P w K mg base CX0 1 T.f_pen T.d_pen P_pen (spPen K) := by
  refine T.F_pen.ok sc_pen (fun vs H Q E h => ?_) (fun cdv A outer s H vs Q E hr h => ?_)
  · obtain ⟨a, ns, rfl, _⟩ := h
    rfl
  · obtain ⟨a, ns, rfl, hS, hl, k⟩ := h
    refine ⟨_, (pss_cons (ps_set (i := 1) sc_pen.nd rfl (Or.inl rfl) pe_int)
      (pss_cons (ps_for PassesOwn.never rfl (pi_list (pv 0)) (pg_name (i := 2) sc_pen.nd rfl (Or.inl rfl)) (pss_one (ps_set (i := 1) sc_pen.nd rfl (Or.inl rfl) (pe_op op_mod (pe_callTy call_int1 (by rfl) T.b_int (by decide +kernel) (pa_cons (pe_op op_add (pe_op op_mul (pv 1) pe_int) (pv 2)) pa_nil)) pe_int))))
      (pss_one (ps_ret (pe_disp (pps_cons pe_str (pe_callTy call_list_of (by rfl) T.b_list (by decide +kernel) (pa_cons (pv 0) pa_nil)) (pps_cons pe_str pe_int (pps_cons pe_str pe_int (pps_cons pe_str pe_int (pps_cons pe_str (pv 1) (pps_cons pe_str pe_int pps_nil)))))) (by rfl) (by rfl) (fun z => by cases z) (by decide)))))), ?_⟩
    refine q_asg ev_c fun H1 X1 => ?_
    refine q_forLn (K := K) (ev_var rfl) (ex_l X1 hS) (fun i σ H' => ∃ (t : Int) (v : Option V), σ = [some (.ref a), some (.int t), v] ∧ Ex H H' ∧ 0 ≤ t ∧ t < 2147483587) (fun H2 X2 => ⟨29, none, rfl, X1.trans X2, by decide, by decide⟩) (fun i σ' H' _ ⟨_, _, _, X, _⟩ => ex_l X hS) ?_ ?_
    · rintro i x σ' H' hx ⟨t, v, rfl, X, t0, t1⟩
      obtain ⟨b, _, rfl⟩ := at_int hx
      refine s_asg (ev_op (ev_cb (ea_cons (ev_op (ev_op (ev_var rfl) ev_c (rv_I (.inr (by decide)))) (ev_var rfl) rv_I0) ea_nil) (fun H2 _ _ q => .inl ⟨_, rfl, q H2 (Ex.refl H2)⟩)) ev_c (rv_I (by decide : (0 : Int) < 2147483587))) fun H2 X2 => ?_
      exact ⟨_, _, rfl, X.trans X2, Int.emod_nonneg _ (by decide), Int.emod_lt_of_pos _ (by decide)⟩
    · rintro σ' H' ⟨t, v, rfl, X, t0, t1⟩
      intro p hp
      refine ⟨_, rfl, a, _, rfl, .inl (ex_l (X.trans (Ex.new hp)) hS), fun c hc => ?_⟩
      have ncp : p ≠ c := fun e => by rw [← e, upd_same] at hc; cases hc
      have hc' : H' c = none := by rw [upd_ne ncp.symm] at hc; exact hc
      refine ⟨_, rfl, Eq.trans (upd_ne ncp) upd_same, penK c 0 0 0 t 0, rfl, (by show 6 ≤ 15; decide), ?_⟩
      rw [pk_made]
      refine k _ p c (fun b o e => ?_) (fresh_back X hp) (fresh_back X hc') ⟨ns, 0, 0, 0, t, 0, upd_same, ?_, by decide, by decide, by decide, t0, by omega, by decide, by decide⟩
      · rw [upd_ne (ne_of_none e (fresh_back X hp)), upd_ne (ne_of_none e (fresh_back X hc')), upd_ne (ne_of_none e (fresh_back X hp))]
        exact X _ _ e
      · rw [upd_ne ncp.symm, upd_same]
theorem ok_take (T : Txt P K mg) : FnOk P w K mg base CX0 1 T.f_take T.d_take P_take spTake := by
  refine T.F_take.ok sc_take (fun vs H Q E h => ?_) (fun cdv A outer s H vs Q E hr h => ?_)
  · obtain ⟨p, c, m, k, rfl, _⟩ := h
    rfl
  · obtain ⟨p, c, b, k, rfl, ⟨cs, i, r, d, m, t, hp, hc, i0, d0, d1, m0, m1, t0, t1⟩, hk, b0, b1, kont⟩ := h
    have ncp : c ≠ p := ne_of hc hp (by intro q; cases q)
    refine ⟨_, (pss_cons (ps_asg (pe_op op_add (pe_dget (hu_of hr) (pv 0) pe_str (fun _ _ => rfl)) pe_int) (pg_sub (pv 0) pe_str (set_dict (hu_of hr))))
      (pss_cut (ps_if (PW.pt (pw_and (pt_cmpR op_eq (pe_dget (hu_of hr) (pv 0) pe_str (fun _ _ => rfl)) pe_int (nomark _)) (pw_and1 (pt_cmpR op_lt (pe_dget (hu_of hr) (pv 0) pe_str (fun _ _ => rfl)) (pe_callB call_len_seq (by rfl) T.b_len (by decide +kernel) (pa_cons (pe_dget (hu_of hr) (pv 0) pe_str (fun _ _ => rfl)) pa_nil)) (nomark _))))) (pss_cons (ps_set (i := 2) sc_take.nd rfl (Or.inl rfl) (pe_ix ix_list (pe_dget (hu_of hr) (pv 0) pe_str (fun _ _ => rfl)) (pe_dget (hu_of hr) (pv 0) pe_str (fun _ _ => rfl)) (fun _ _ => rfl)))
      (pss_cons (ps_asg (pe_op op_add (pe_dget (hu_of hr) (pv 0) pe_str (fun _ _ => rfl)) pe_int) (pg_sub (pv 0) pe_str (set_dict (hu_of hr))))
      (pss_cons (ps_if (pt_cmpR op_lt (pv 2) (pe_op op_pow pe_int pe_int) (nomark _)) (pss_cons (ps_set (i := 3) sc_take.nd rfl (Or.inl rfl) (pe_op op_mod (pe_callTy call_int1 (by rfl) T.b_int (by decide +kernel) (pa_cons (pe_op op_add (pe_op op_add (pe_op op_mul (pe_op op_mod (pe_callTy call_int1 (by rfl) T.b_int (by decide +kernel) (pa_cons (pv 2) pa_nil)) pe_int) pe_int) (pe_dget (hu_of hr) (pv 0) pe_str (fun _ _ => rfl))) (pe_op op_mul (pe_dget (hu_of hr) (pv 0) pe_str (fun _ _ => rfl)) pe_int)) pa_nil)) pe_int))
      (pss_cons (ps_asg (pe_op op_mod (pe_callTy call_int1 (by rfl) T.b_int (by decide +kernel) (pa_cons (pe_op op_add (pe_op op_add (pe_op op_mul (pe_dget (hu_of hr) (pv 0) pe_str (fun _ _ => rfl)) pe_int) (pv 3)) pe_int) pa_nil)) pe_int) (pg_sub (pv 0) pe_str (set_dict (hu_of hr))))
      (pss_one (ps_ret (pe_op op_mod (pe_op op_fdiv (pe_op op_mod (pe_callTy call_int1 (by rfl) T.b_int (by decide +kernel) (pa_cons (pe_op op_add (pe_op op_mul (pv 3) (pv 3)) (pe_dget (hu_of hr) (pv 0) pe_str (fun _ _ => rfl))) pa_nil)) pe_int) pe_int) (pv 1)))))) pss_nil)
      (pss_cons (ps_asg (pe_op op_sub (pv 2) (pe_op op_pow pe_int pe_int)) (pg_sub (pv 0) pe_str (set_dict (hu_of hr))))
      (pss_one (ps_asg pe_int (pg_sub (pv 0) pe_str (set_dict (hu_of hr))))))))) pss_nil)
      (pss_cons (ps_if (pt_cmpR op_gt (pe_dget (hu_of hr) (pv 0) pe_str (fun _ _ => rfl)) pe_int (nomark _)) (pss_cons (ps_asg (pe_op op_sub (pe_dget (hu_of hr) (pv 0) pe_str (fun _ _ => rfl)) pe_int) (pg_sub (pv 0) pe_str (set_dict (hu_of hr))))
      (pss_cons (ps_set (i := 4) sc_take.nd rfl (Or.inl rfl) (pe_op op_mod (pe_callTy call_int1 (by rfl) T.b_int (by decide +kernel) (pa_cons (pe_dget (hu_of hr) (pv 0) pe_str (fun _ _ => rfl)) pa_nil)) (pv 1)))
      (pss_cons (ps_asg (pe_op op_fdivW (pe_dget (hu_of hr) (pv 0) pe_str (fun _ _ => rfl)) (pv 1)) (pg_sub (pv 0) pe_str (set_dict (hu_of hr))))
      (pss_one (ps_ret (pv 4)))))) pss_nil)
      (pss_cons (ps_asg (pe_op op_mod (pe_callTy call_int1 (by rfl) T.b_int (by decide +kernel) (pa_cons (pe_op op_add (pe_op op_add (pe_op op_mul (pe_dget (hu_of hr) (pv 0) pe_str (fun _ _ => rfl)) pe_int) (pe_op op_mul (pe_dget (hu_of hr) (pv 0) pe_str (fun _ _ => rfl)) pe_int)) pe_int) pa_nil)) pe_int) (pg_sub (pv 0) pe_str (set_dict (hu_of hr))))
      (pss_one (ps_ret (pe_op op_mod (pe_op op_fdiv (pe_op op_mod (pe_callTy call_int1 (by rfl) T.b_int (by decide +kernel) (pa_cons (pe_op op_add (pe_op op_mul (pe_dget (hu_of hr) (pv 0) pe_str (fun _ _ => rfl)) (pe_dget (hu_of hr) (pv 0) pe_str (fun _ _ => rfl))) (pe_dget (hu_of hr) (pv 0) pe_str (fun _ _ => rfl))) pa_nil)) pe_int) pe_int) (pv 1)))))))), ?_⟩
    refine q_dput hp (v := .int (t + 1)) (ev_op (ev_dgetK (ev_var rfl) ev_c hp pk_turn) ev_c rv_I0) (ev_var rfl) ev_c (by show 6 < 100000; decide) fun H1 X1 => ?_
    rw [pp_turn]
    have hp1 : (upd H1 p (.dK (penK c i r d m (t + 1)))) p = some (.dK (penK c i r d m (t + 1))) := upd_same
    have hc1 : (upd H1 p (.dK (penK c i r d m (t + 1)))) c = some (.lst (cs.map V.int)) := (upd_ne ncp).trans (X1 _ _ hc)
    have K1 : Kp p H (upd H1 p (.dK (penK c i r d m (t + 1)))) := Kp.set (Kp.of X1)
    have ht : 0 ≤ t + 1 ∧ t + 1 ≤ ((k + 1 : Nat) : Int) := by omega
    revert hp1 hc1 K1 ht
    generalize upd H1 p (.dK (penK c i r d m (t + 1))) = H2
    generalize t + 1 = u
    intro hp2 hc2 K2 hu
    have hM : (0 : Int) < 2147483587 := by decide
    have hM2 : (0 : Int) < 2147483647 := by decide
    refine q_cut (M := fun σ' H' => ∃ (i' r' d' : Int) (v2 v3 v4 : Option V), σ' = [some (.ref p), some (.int b), v2, v3, v4] ∧ H' p = some (.dK (penK c i' r' d' m u)) ∧ H' c = some (.lst (cs.map V.int)) ∧ 0 ≤ i' ∧ 0 ≤ d' ∧ d' ≤ 50 ∧ Kp p H H') ?_ ?_
    · refine s_when (et_and (et_test (ev_op (ev_dgetK (ev_var rfl) ev_c hp2 pk_digits) ev_c (rv_eq rfl))) fun _ => et_test (ev_op (ev_dgetK (ev_var rfl) ev_c hp2 pk_at) (ev_cb (ea_cons (ev_dgetK (ev_var rfl) ev_c hp2 pk_cells) ea_nil) (rc_lenL (sq_of hc2))) rv_I0)) (fun q H3 X3 => ?_) (fun q H3 X3 => ?_)
      · have q' := (Bool.and_eq_true_iff.mp q).2
        have hi : i.toNat < cs.length := by
          have := of_decide_eq_true q'
          simp at this
          omega
        have hp3 := X3 _ _ hp2
        have hc3 := X3 _ _ hc2
        refine q_asg (v := .int (cs[i.toNat])) (ev_op (ev_dgetK (ev_var rfl) ev_c hp3 pk_cells) (ev_dgetK (ev_var rfl) ev_c hp3 pk_at) (rv_ixL (sq_of hc3) (at_of (j := i.toNat) (by omega) (by rw [List.getElem?_map, List.getElem?_eq_getElem hi]; rfl)))) fun H4 X4 => ?_
        generalize cs[i.toNat] = cell
        have hp4 := X4 _ _ hp3
        refine q_dput hp4 (v := .int (i + 1)) (ev_op (ev_dgetK (ev_var rfl) ev_c hp4 pk_at) ev_c rv_I0) (ev_var rfl) ev_c (by show 6 < 100000; decide) fun H5 X5 => ?_
        rw [pp_at]
        have hp5 : (upd H5 p (.dK (penK c (i + 1) r d m u))) p = some (.dK (penK c (i + 1) r d m u)) := upd_same
        have hc5 : (upd H5 p (.dK (penK c (i + 1) r d m u))) c = some (.lst (cs.map V.int)) := (upd_ne ncp).trans (X5 _ _ (X4 _ _ hc3))
        have K5 : Kp p H (upd H5 p (.dK (penK c (i + 1) r d m u))) := Kp.set (Kp.trans K2 (Kp.of (X3.trans (X4.trans X5))))
        revert hp5 hc5 K5
        generalize upd H5 p (.dK (penK c (i + 1) r d m u)) = H6
        intro hp6 hc6 K6
        refine q_when (et_test (ev_op (ev_var rfl) (ev_op ev_c ev_c (rv_I ⟨by decide, by decide, by decide⟩)) rv_I0)) (fun q2 H7 X7 => ?_) (fun q2 H7 X7 => ?_)
        · have hp7 := X7 _ _ hp6
          have hp8 := hp7
          have X8 := Ex.refl H7
          have hc8 := X7 _ _ hc6
          refine q_asg (v := .int ((cell % 2147483587 * 69621 + m + u * 40692) % 2147483647)) (ev_op (ev_cb (ea_cons (ev_op (ev_op (ev_op (ev_op (ev_cb (ea_cons (ev_var rfl) ea_nil) (fun H2 _ _ q => .inl ⟨_, rfl, q H2 (Ex.refl H2)⟩)) ev_c (rv_I hM)) ev_c (rv_I (.inr (by decide)))) (ev_dgetK (ev_var rfl) ev_c hp8 pk_mix) rv_I0) (ev_op (ev_dgetK (ev_var rfl) ev_c hp8 pk_turn) ev_c (rv_I (.inr (by decide)))) rv_I0) ea_nil) (fun H2 _ _ q => .inl ⟨_, rfl, q H2 (Ex.refl H2)⟩)) ev_c (rv_I hM2)) fun H9 X9 => ?_
          have f0 : 0 ≤ (cell % 2147483587 * 69621 + m + u * 40692) % 2147483647 := Int.emod_nonneg _ (by decide)
          have f1 : (cell % 2147483587 * 69621 + m + u * 40692) % 2147483647 < 2147483647 := Int.emod_lt_of_pos _ hM2
          revert f0 f1
          generalize (cell % 2147483587 * 69621 + m + u * 40692) % 2147483647 = f
          intro f0 f1
          have hp9 := X9 _ _ hp8
          refine q_dput hp9 (v := .int ((m * 16807 + f + 13) % 2147483587)) (ev_op (ev_cb (ea_cons (ev_op (ev_op (ev_op (ev_dgetK (ev_var rfl) ev_c hp9 pk_mix) ev_c (rv_I (.inr (by decide)))) (ev_var rfl) rv_I0) ev_c rv_I0) ea_nil) (fun H2 _ _ q => .inl ⟨_, rfl, q H2 (Ex.refl H2)⟩)) ev_c (rv_I hM)) (ev_var rfl) ev_c (by show 6 < 100000; decide) fun H10 X10 => ?_
          rw [pp_mix]
          have g0 : 0 ≤ (m * 16807 + f + 13) % 2147483587 := Int.emod_nonneg _ (by decide)
          have g1 : (m * 16807 + f + 13) % 2147483587 < 2147483587 := Int.emod_lt_of_pos _ hM
          revert g0 g1
          generalize (m * 16807 + f + 13) % 2147483587 = g
          intro g0 g1
          have hp11 : (upd H10 p (.dK (penK c (i + 1) r d g u))) p = some (.dK (penK c (i + 1) r d g u)) := upd_same
          have hc11 : (upd H10 p (.dK (penK c (i + 1) r d g u))) c = some (.lst (cs.map V.int)) := (upd_ne ncp).trans (X10 _ _ (X9 _ _ (X8 _ _ (X7 _ _ hc6))))
          have K11 : Kp p H (upd H10 p (.dK (penK c (i + 1) r d g u))) := Kp.set (Kp.trans K6 (Kp.of (X7.trans (X8.trans (X9.trans X10)))))
          refine s_ret (v := .int ((f * f + g) % 2147483563 / 7 % b)) (ev_op (ev_op (ev_op (ev_cb (ea_cons (ev_op (ev_op (ev_var rfl) (ev_var rfl) (rv_I (.inl ⟨by omega, by omega⟩))) (ev_dgetK (ev_var rfl) ev_c hp11 pk_mix) rv_I0) ea_nil) (fun H2 _ _ q => .inl ⟨_, rfl, q H2 (Ex.refl H2)⟩)) ev_c (rv_I (by decide : (0 : Int) < 2147483563))) ev_c (rv_I ⟨by decide, by decide⟩)) (ev_var rfl) (rv_I b0)) fun H12 X12 => ?_
          exact kont _ _ (Kp.trans K11 (Kp.of X12)) ⟨cs, _, _, _, _, _, X12 _ _ hp11, X12 _ _ hc11, by omega, d0, d1, g0, by omega, hu.1, hu.2⟩ (Int.emod_nonneg _ (by omega)) (Int.emod_lt_of_pos _ b0)
        · have hp7 := X7 _ _ hp6
          have hc7 := X7 _ _ hc6
          refine q_dput hp7 (v := .int (cell - 10 ^ 18)) (ev_op (ev_var rfl) (ev_op ev_c ev_c (rv_I ⟨by decide, by decide, by decide⟩)) rv_I0) (ev_var rfl) ev_c (by show 6 < 100000; decide) fun H8 X8 => ?_
          rw [pp_rest]
          have hp8 : (upd H8 p (.dK (penK c (i + 1) (cell - 10 ^ 18) d m u))) p = some (.dK (penK c (i + 1) (cell - 10 ^ 18) d m u)) := upd_same
          refine s_dput hp8 (v := .int 40) ev_c (ev_var rfl) ev_c (by show 6 < 100000; decide) fun H9 X9 => ?_
          rw [pp_digits]
          refine ⟨_, _, _, _, _, _, rfl, upd_same, (upd_ne ncp).trans (X9 _ _ ((upd_ne ncp).trans (X8 _ _ hc7))), by omega, by decide, by decide, ?_⟩
          exact Kp.set (Kp.trans (Kp.set (Kp.trans K6 (Kp.of (X7.trans X8)))) (Kp.of X9))
      · exact ⟨_, _, _, _, _, _, rfl, X3 _ _ hp2, X3 _ _ hc2, i0, d0, d1, Kp.trans K2 (Kp.of X3)⟩
    · rintro σ' H3 ⟨i', r', d', v2, v3, v4, rfl, hp3, hc3, i0', d0', d1', K3⟩
      refine q_when (et_test (ev_op (ev_dgetK (ev_var rfl) ev_c hp3 pk_digits) ev_c rv_I0)) (fun q H4 X4 => ?_) (fun q H4 X4 => ?_)
      · have hd : 0 < d' := of_decide_eq_true q
        have hp4 := X4 _ _ hp3
        refine q_dput hp4 (v := .int (d' - 1)) (ev_op (ev_dgetK (ev_var rfl) ev_c hp4 pk_digits) ev_c rv_I0) (ev_var rfl) ev_c (by show 6 < 100000; decide) fun H5 X5 => ?_
        rw [pp_digits]
        have hp5 : (upd H5 p (.dK (penK c i' r' (d' - 1) m u))) p = some (.dK (penK c i' r' (d' - 1) m u)) := upd_same
        refine q_asg (v := .int (r' % b)) (ev_op (ev_cb (ea_cons (ev_dgetK (ev_var rfl) ev_c hp5 pk_rest) ea_nil) (fun H2 _ _ q => .inl ⟨_, rfl, q H2 (Ex.refl H2)⟩)) (ev_var rfl) (rv_I b0)) fun H6 X6 => ?_
        have hp6 := X6 _ _ hp5
        refine q_dput hp6 (v := .int (r' / b)) (ev_op (ev_dgetK (ev_var rfl) ev_c hp6 pk_rest) (ev_var rfl) (rv_I ⟨b0, Way.log_le b0 b1⟩)) (ev_var rfl) ev_c (by show 6 < 100000; decide) fun H7 X7 => ?_
        rw [pp_rest]
        refine s_ret (ev_var rfl) fun H8 X8 => ?_
        refine kont _ _ (Kp.trans (Kp.set (Kp.trans (Kp.set (Kp.trans K3 (Kp.of (X4.trans X5)))) (Kp.of (X6.trans X7)))) (Kp.of X8)) ⟨cs, _, _, _, _, _, X8 _ _ upd_same, X8 _ _ ((upd_ne ncp).trans (X7 _ _ (X6 _ _ ((upd_ne ncp).trans (X5 _ _ (X4 _ _ hc3)))))), i0', by omega, by omega, m0, m1, hu.1, hu.2⟩ (Int.emod_nonneg _ (by omega)) (Int.emod_lt_of_pos _ b0)
      · have hp4 := X4 _ _ hp3
        refine q_dput hp4 (v := .int ((m * 69621 + u * 16807 + 5) % 2147483647)) (ev_op (ev_cb (ea_cons (ev_op (ev_op (ev_op (ev_dgetK (ev_var rfl) ev_c hp4 pk_mix) ev_c (rv_I (.inr (by decide)))) (ev_op (ev_dgetK (ev_var rfl) ev_c hp4 pk_turn) ev_c (rv_I (.inr (by decide)))) rv_I0) ev_c rv_I0) ea_nil) (fun H2 _ _ q => .inl ⟨_, rfl, q H2 (Ex.refl H2)⟩)) ev_c (rv_I hM2)) (ev_var rfl) ev_c (by show 6 < 100000; decide) fun H5 X5 => ?_
        rw [pp_mix]
        have f0 : 0 ≤ (m * 69621 + u * 16807 + 5) % 2147483647 := Int.emod_nonneg _ (by decide)
        have f1 : (m * 69621 + u * 16807 + 5) % 2147483647 < 2147483647 := Int.emod_lt_of_pos _ hM2
        revert f0 f1
        generalize (m * 69621 + u * 16807 + 5) % 2147483647 = f
        intro f0 f1
        have hp5 : (upd H5 p (.dK (penK c i' r' d' f u))) p = some (.dK (penK c i' r' d' f u)) := upd_same
        refine s_ret (v := .int ((f * f + u) % 2147483579 / 7 % b)) (ev_op (ev_op (ev_op (ev_cb (ea_cons (ev_op (ev_op (ev_dgetK (ev_var rfl) ev_c hp5 pk_mix) (ev_dgetK (ev_var rfl) ev_c hp5 pk_mix) (rv_I (.inl ⟨by omega, by omega⟩))) (ev_dgetK (ev_var rfl) ev_c hp5 pk_turn) rv_I0) ea_nil) (fun H2 _ _ q => .inl ⟨_, rfl, q H2 (Ex.refl H2)⟩)) ev_c (rv_I (by decide : (0 : Int) < 2147483579))) ev_c (rv_I ⟨by decide, by decide⟩)) (ev_var rfl) (rv_I b0)) fun H6 X6 => ?_
        exact kont _ _ (Kp.trans (Kp.set (Kp.trans K3 (Kp.of (X4.trans X5)))) (Kp.of X6)) ⟨cs, _, _, _, _, _, X6 _ _ hp5, X6 _ _ ((upd_ne ncp).trans (X5 _ _ (X4 _ _ hc3))), i0', d0', d1', f0, by omega, hu.1, hu.2⟩ (Int.emod_nonneg _ (by omega)) (Int.emod_lt_of_pos _ b0)
end
end K01

namespace K01
open PySem L2 Way Evl
section
variable {P : Program} {w : World} {K : PySem.W.Frag} {mg : Str → Option Value} {base : Heap}
theorem ok_BadField_init (T : Txt P K mg) : FnOk P w K mg base CX0 1 T.f_BadField_init T.d_BadField_init P_BadField_init (Way.spX1 T.C_BadField "name") :=
  Way.superOk T.S_BadField T.X_BadField.oex sc_BadField_init (fun vs H Q E h => by obtain ⟨a, v, rfl, _⟩ := h; rfl) rfl rfl rfl rfl T.b_super (fun _ => rfl) (fun _ => rfl) (fun _ => ⟨_, rfl⟩) (fun A outer s H vs Q E hr h => by
    obtain ⟨a, v, rfl, ha, k⟩ := h
    exact ⟨a, [v], rfl, ha, _, (pss_one (ps_ost (pv 0) (pv 1))), Way.init1 T.X_BadField.oex T.na_BadField_name ha k⟩)
theorem ok_BadKind_init (T : Txt P K mg) : FnOk P w K mg base CX0 1 T.f_BadKind_init T.d_BadKind_init P_BadKind_init (Way.spX1 T.C_BadKind "name") :=
  Way.superOk T.S_BadKind T.X_BadKind.oex sc_BadKind_init (fun vs H Q E h => by obtain ⟨a, v, rfl, _⟩ := h; rfl) rfl rfl rfl rfl T.b_super (fun _ => rfl) (fun _ => rfl) (fun _ => ⟨_, rfl⟩) (fun A outer s H vs Q E hr h => by
    obtain ⟨a, v, rfl, ha, k⟩ := h
    exact ⟨a, [v], rfl, ha, _, (pss_one (ps_ost (pv 0) (pv 1))), Way.init1 T.X_BadKind.oex T.na_BadKind_name ha k⟩)
theorem ok_is_integer (T : Txt P K mg) : FnOk P w K mg base CX0 1 T.f_is_integer T.d_is_integer P_is_integer (spB1 K isInt) := by
  refine T.F_is_integer.ok sc_is_integer (fun vs H Q E h => ?_) (fun cdv A outer s H vs Q E hr h => ?_)
  · obtain ⟨v, d, rfl, _⟩ := h
    rfl
  · obtain ⟨v, d, rfl, pq, kont⟩ := h
    refine ⟨_, (pss_one (ps_ret (pe_and (pe_callB call_isi (by rfl) T.b_isinstance (by decide +kernel) (pa_cons (pv 0) (pa_cons (pe_bltn (v := .ty "int") (by rfl) T.b_int (by decide +kernel) rfl) pa_nil))) (pe_one (pe_not (pe_callB call_isi (by rfl) T.b_isinstance (by decide +kernel) (pa_cons (pv 0) (pa_cons (pe_bltn (v := .ty "bool") (by rfl) T.b_bool (by decide +kernel) rfl) pa_nil)))))))), ?_⟩
    refine s_ret (ev_is (ev_andV (ev_isd (ev_var rfl) pq kd_int) fun _ => ev_notV (ev_isd (ev_var rfl) pq kd_bool)) ?_) fun H1 X1 => kont H1 X1
    cases d <;> rfl
theorem ok_l_is_integer (T : Txt P K mg) : FnOk P w K mg base CX0 1 T.f_l_is_integer T.d_l_is_integer P_l_is_integer (spB1 K isInt) := by
  refine T.F_l_is_integer.ok sc_l_is_integer (fun vs H Q E h => ?_) (fun cdv A outer s H vs Q E hr h => ?_)
  · obtain ⟨v, d, rfl, _⟩ := h
    rfl
  · obtain ⟨v, d, rfl, pq, kont⟩ := h
    refine ⟨_, (pss_one (ps_ret (pe_and (pe_callB call_isi (by rfl) T.b_isinstance (by decide +kernel) (pa_cons (pv 0) (pa_cons (pe_bltn (v := .ty "int") (by rfl) T.b_int (by decide +kernel) rfl) pa_nil))) (pe_one (pe_not (pe_callB call_isi (by rfl) T.b_isinstance (by decide +kernel) (pa_cons (pv 0) (pa_cons (pe_bltn (v := .ty "bool") (by rfl) T.b_bool (by decide +kernel) rfl) pa_nil)))))))), ?_⟩
    refine s_ret (ev_is (ev_andV (ev_isd (ev_var rfl) pq kd_int) fun _ => ev_notV (ev_isd (ev_var rfl) pq kd_bool)) ?_) fun H1 X1 => kont H1 X1
    cases d <;> rfl
theorem all_lets (x : Str) : (x.cps.toList.map fun c => decide (c ∈ LET)).all id = lets x := by
  rw [List.all_map]; rfl
theorem ok_is_letters (T : Txt P K mg) : FnOk P w K mg base CX0 1 T.f_is_letters T.d_is_letters P_is_letters (spX lets) := by
  refine T.F_is_letters.ok sc_is_letters (fun vs H Q E h => ?_) (fun cdv A outer s H vs Q E hr h => ?_)
  · obtain ⟨x, rfl, _⟩ := h
    rfl
  · obtain ⟨x, rfl, hl, kont⟩ := h
    refine ⟨_, (pss_one (ps_ret (pe_callB (cr_all rfl) (by rfl) T.b_all (by decide +kernel) (pa_cons (pe_lc (own := [("letter", 1)]) (g := gName 1) (by rfl) sc_is_letters.nd (pi_str (pv 0)) (blkOk_by (own := [("letter", 1)]) (N := N_is_letters) (sc := defScope s_is_letters) (by decide +kernel)) (fun _ _ _ _ _ => (pg_name (i := 1) sc_is_letters.nd rfl (Or.inl rfl))) (fun _ _ _ _ _ => pts_nil) (fun _ _ _ _ _ => (pe_cmpR op_in_sign (pv 1) (pe_glob (v := .str "abcdefghijklmnopqrstuvwxyz") (by rfl) T.g_LETTERS ⟨_, rfl⟩) (by rfl)))) pa_nil)))), ?_⟩
    refine s_ret (ev_is (ev_all (bs := x.cps.toList.map fun c => decide (c ∈ LET)) ?_) (by rw [all_lets])) fun H1 X1 => kont H1 X1
    rw [List.map_map]
    exact el_mapX (w := fun c => .bl (decide (c ∈ LET))) (ev_var rfl) (by have : x.cps.size ≤ 100 := hl; omega) (fun _ => rfl) fun c H1 X1 => ev_op (ev_var rfl) ev_c rv_sign
theorem ok_letters (T : Txt P K mg) : FnOk P w K mg base CX0 1 T.f_letters T.d_letters P_letters (spX lets) := by
  refine T.F_letters.ok sc_letters (fun vs H Q E h => ?_) (fun cdv A outer s H vs Q E hr h => ?_)
  · obtain ⟨x, rfl, _⟩ := h
    rfl
  · obtain ⟨x, rfl, hl, kont⟩ := h
    refine ⟨_, (pss_one (ps_ret (pe_cmpR op_eq (pe_callB call_len_seq (by rfl) T.b_len (by decide +kernel) (pa_cons (pe_lc (own := [("_law_sign", 1)]) (g := gName 1) (by rfl) sc_letters.nd (pi_str (pv 0)) (blkOk_by (own := [("_law_sign", 1)]) (N := N_letters) (sc := defScope s_letters) (by decide +kernel)) (fun _ _ _ _ _ => (pg_name (i := 1) sc_letters.nd rfl (Or.inl rfl))) (fun _ _ _ _ _ => (pts_one (pt_cmpR op_notIn_sign (pv 1) pe_str (by rfl)))) (fun _ _ _ _ _ => (pv 1))) pa_nil)) pe_int (nomark _)))), ?_⟩
    refine s_ret (ev_is (ev_op (ev_lenFltX (g := fun c => !decide (c ∈ LET)) (ev_var rfl) (by have : x.cps.size ≤ 100 := hl; omega) (by show 1 < 2; decide) (fun _ => rfl) fun c H1 X1 => et_test (ev_op (ev_var rfl) ev_c rv_signN)) ev_c (rv_eq rfl)) ?_) fun H1 X1 => kont H1 X1
    unfold lets
    generalize x.cps.toList = l
    congr 1
    induction l with
    | nil => rfl
    | cons a r ih =>
      rw [List.all_cons, List.filter_cons]
      cases h : decide (a ∈ LET) with
      | true => simpa using ih
      | false => simp; omega
theorem ok_is_field_name (T : Txt P K mg) : FnOk P w K mg base CX0 2 T.f_is_field_name T.d_is_field_name P_is_field_name (spB1 K fFN) := by
  have G_is_letters := ok_is_letters (P := P) (w := w) (base := base) T
  refine T.F_is_field_name.ok sc_is_field_name (fun vs H Q E h => ?_) (fun cdv A outer s H vs Q E hr h => ?_)
  · obtain ⟨v, d, rfl, _⟩ := h
    rfl
  · obtain ⟨v, d, rfl, pq, kont⟩ := h
    refine ⟨_, (pss_one (ps_ret (pe_and (pe_callB call_isi (by rfl) T.b_isinstance (by decide +kernel) (pa_cons (pv 0) (pa_cons (pe_bltn (v := .ty "str") (by rfl) T.b_str (by decide +kernel) rfl) pa_nil))) (pe_and (pe_chain op_le op_le pe_int (pe_callB call_len_str (by rfl) T.b_len (by decide +kernel) (pa_cons (pv 0) pa_nil)) pe_int) (pe_one (pe_call G_is_letters hr (by rfl) T.g_is_letters T.F_is_letters.kp T.B_is_letters .nil pass0 (pa_cons (pv 0) pa_nil))))))), ?_⟩
    cases hs : isStr d with
    | false =>
      refine s_ret (ev_is (ev_andV (a := false) (b := true) (ev_isd (ev_var rfl) pq (by rw [kd_str, hs])) fun q => nomatch q) ?_) fun H1 X1 => kont H1 X1
      cases d <;> simp_all [isStr, fFN]
    | true =>
      obtain ⟨x, rfl, rfl, hl⟩ := pv_isStr pq hs
      refine s_ret (ev_is (ev_andV (ev_isd (ev_var rfl) pq kd_str) fun _ => ev_andV (ev_chain ev_c (ev_lenX (ev_var rfl) (by omega)) ev_c rv_I0 rv_I0) fun _ => ev_x (ev_var rfl) (by omega)) ?_) fun H1 X1 => kont H1 X1
      rfl
theorem ok_l_is_field_name (T : Txt P K mg) : FnOk P w K mg base CX0 2 T.f_l_is_field_name T.d_l_is_field_name P_l_is_field_name (spB1 K fFN) := by
  have G_letters := ok_letters (P := P) (w := w) (base := base) T
  refine T.F_l_is_field_name.ok sc_l_is_field_name (fun vs H Q E h => ?_) (fun cdv A outer s H vs Q E hr h => ?_)
  · obtain ⟨v, d, rfl, _⟩ := h
    rfl
  · obtain ⟨v, d, rfl, pq, kont⟩ := h
    refine ⟨_, (pss_one (ps_ret (pe_and (pe_callB call_isi (by rfl) T.b_isinstance (by decide +kernel) (pa_cons (pv 0) (pa_cons (pe_bltn (v := .ty "str") (by rfl) T.b_str (by decide +kernel) rfl) pa_nil))) (pe_and (pe_chain op_le op_le pe_int (pe_callB call_len_str (by rfl) T.b_len (by decide +kernel) (pa_cons (pv 0) pa_nil)) pe_int) (pe_one (pe_call G_letters hr (by rfl) T.g_letters T.F_letters.kp T.B_letters .nil pass0 (pa_cons (pv 0) pa_nil))))))), ?_⟩
    cases hs : isStr d with
    | false =>
      refine s_ret (ev_is (ev_andV (a := false) (b := true) (ev_isd (ev_var rfl) pq (by rw [kd_str, hs])) fun q => nomatch q) ?_) fun H1 X1 => kont H1 X1
      cases d <;> simp_all [isStr, fFN]
    | true =>
      obtain ⟨x, rfl, rfl, hl⟩ := pv_isStr pq hs
      refine s_ret (ev_is (ev_andV (ev_isd (ev_var rfl) pq kd_str) fun _ => ev_andV (ev_chain ev_c (ev_lenX (ev_var rfl) (by omega)) ev_c rv_I0 rv_I0) fun _ => ev_x (ev_var rfl) (by omega)) ?_) fun H1 X1 => kont H1 X1
      rfl
theorem ok_is_kind_name (T : Txt P K mg) : FnOk P w K mg base CX0 2 T.f_is_kind_name T.d_is_kind_name P_is_kind_name (spB1 K fKN) := by
  have G_is_letters := ok_is_letters (P := P) (w := w) (base := base) T
  refine T.F_is_kind_name.ok sc_is_kind_name (fun vs H Q E h => ?_) (fun cdv A outer s H vs Q E hr h => ?_)
  · obtain ⟨v, d, rfl, _⟩ := h
    rfl
  · obtain ⟨v, d, rfl, pq, kont⟩ := h
    refine ⟨_, (pss_cons (ps_if (PW.pt (pw_or (pt_not (pt_val (pe_callB call_isi (by rfl) T.b_isinstance (by decide +kernel) (pa_cons (pv 0) (pa_cons (pe_bltn (v := .ty "str") (by rfl) T.b_str (by decide +kernel) rfl) pa_nil))))) (pw_or1 (pt_not (pt_chain op_le op_le pe_int (pe_callB call_len_str (by rfl) T.b_len (by decide +kernel) (pa_cons (pv 0) pa_nil)) pe_int))))) (pss_one (ps_ret pe_bl)) pss_nil)
      (pss_one (ps_ret (pe_and (pe_cmpR op_in_sign (pe_ix ix_str (pv 0) pe_int (fun _ _ => rfl)) (pe_glob (v := .str "ABCDEFGHIJKLMNOPQRSTUVWXYZ") (by rfl) T.g_CAPITALS ⟨_, rfl⟩) (by rfl)) (pe_one (pe_call G_is_letters hr (by rfl) T.g_is_letters T.F_is_letters.kp T.B_is_letters .nil pass0 (pa_cons (pe_slice C8.sl_txt (pv 0) (po_some pe_int) po_none) pa_nil))))))), ?_⟩
    cases hs : isStr d with
    | false =>
      refine q_when (b := true) (et_is (et_or (a := true) (b := true) (et_not (a := false) (et_B (ev_isd (ev_var rfl) pq (by rw [kd_str, hs])))) fun q => nomatch q) rfl) (fun _ H1 X1 => ?_) fun q => nomatch q
      refine s_ret (v := .bl (fKN d)) (ev_is ev_c ?_) fun H2 X2 => kont H2 (X1.trans X2)
      cases d <;> simp_all [isStr, fKN]
    | true =>
      obtain ⟨x, rfl, rfl, hl⟩ := pv_isStr pq hs
      refine q_when (b := !sz8 x) (et_is (et_or (et_not (et_B (ev_isd (ev_var rfl) pq (by rw [kd_str, hs])))) fun _ => et_not (et_test (ev_chain ev_c (ev_lenX (ev_var rfl) (by omega)) ev_c rv_I0 rv_I0))) rfl) (fun q H1 X1 => ?_) (fun q H1 X1 => ?_)
      · refine s_ret (v := .bl (fKN (.str x))) (ev_is ev_c ?_) fun H2 X2 => kont H2 (X1.trans X2)
        have q' : sz8 x = false := by simpa using q
        simp [fKN, knS, q']
      · have q' : sz8 x = true := by simpa using q
        obtain ⟨c, r, e, h8⟩ := sz8_cons q'
        refine s_ret (v := .bl (fKN (.str x))) (ev_is (ev_andV (ev_op (ev_op (ev_var rfl) ev_c (rv_ixS (by omega) (at0 e))) ev_c rv_sign) fun _ => ev_x (ev_is (ev_slX (ev_var rfl) (eo_some ev_c) eo_none (by omega)) (congrArg V.str (slice1 e))) ?_) ?_) fun H2 X2 => kont H2 (X1.trans X2)
        · have h1 : x.cps.toList.length = x.length := by simp [Str.length]
          rw [e, List.length_cons] at h1
          have h2 : (Str.mk r.toArray).length = r.length := by simp [Str.length]
          rw [h2]
          omega
        · simp only [fKN, knS, q', e, capL, Bool.true_and]
          rfl
theorem ok_l_is_kind_name (T : Txt P K mg) : FnOk P w K mg base CX0 2 T.f_l_is_kind_name T.d_l_is_kind_name P_l_is_kind_name (spB1 K fKN) := by
  have G_letters := ok_letters (P := P) (w := w) (base := base) T
  refine T.F_l_is_kind_name.ok sc_l_is_kind_name (fun vs H Q E h => ?_) (fun cdv A outer s H vs Q E hr h => ?_)
  · obtain ⟨v, d, rfl, _⟩ := h
    rfl
  · obtain ⟨v, d, rfl, pq, kont⟩ := h
    refine ⟨_, (pss_cons (ps_if (PW.pt (pw_or (pt_not (pt_val (pe_callB call_isi (by rfl) T.b_isinstance (by decide +kernel) (pa_cons (pv 0) (pa_cons (pe_bltn (v := .ty "str") (by rfl) T.b_str (by decide +kernel) rfl) pa_nil))))) (pw_or1 (pt_not (pt_chain op_le op_le pe_int (pe_callB call_len_str (by rfl) T.b_len (by decide +kernel) (pa_cons (pv 0) pa_nil)) pe_int))))) (pss_one (ps_ret pe_bl)) pss_nil)
      (pss_one (ps_ret (pe_and (pe_cmpR op_in_sign (pe_ix ix_str (pv 0) pe_int (fun _ _ => rfl)) pe_str (by rfl)) (pe_one (pe_call G_letters hr (by rfl) T.g_letters T.F_letters.kp T.B_letters .nil pass0 (pa_cons (pe_slice C8.sl_txt (pv 0) (po_some pe_int) po_none) pa_nil))))))), ?_⟩
    cases hs : isStr d with
    | false =>
      refine q_when (b := true) (et_is (et_or (a := true) (b := true) (et_not (a := false) (et_B (ev_isd (ev_var rfl) pq (by rw [kd_str, hs])))) fun q => nomatch q) rfl) (fun _ H1 X1 => ?_) fun q => nomatch q
      refine s_ret (v := .bl (fKN d)) (ev_is ev_c ?_) fun H2 X2 => kont H2 (X1.trans X2)
      cases d <;> simp_all [isStr, fKN]
    | true =>
      obtain ⟨x, rfl, rfl, hl⟩ := pv_isStr pq hs
      refine q_when (b := !sz8 x) (et_is (et_or (et_not (et_B (ev_isd (ev_var rfl) pq (by rw [kd_str, hs])))) fun _ => et_not (et_test (ev_chain ev_c (ev_lenX (ev_var rfl) (by omega)) ev_c rv_I0 rv_I0))) rfl) (fun q H1 X1 => ?_) (fun q H1 X1 => ?_)
      · refine s_ret (v := .bl (fKN (.str x))) (ev_is ev_c ?_) fun H2 X2 => kont H2 (X1.trans X2)
        have q' : sz8 x = false := by simpa using q
        simp [fKN, knS, q']
      · have q' : sz8 x = true := by simpa using q
        obtain ⟨c, r, e, h8⟩ := sz8_cons q'
        refine s_ret (v := .bl (fKN (.str x))) (ev_is (ev_andV (ev_op (ev_op (ev_var rfl) ev_c (rv_ixS (by omega) (at0 e))) ev_c rv_sign) fun _ => ev_x (ev_is (ev_slX (ev_var rfl) (eo_some ev_c) eo_none (by omega)) (congrArg V.str (slice1 e))) ?_) ?_) fun H2 X2 => kont H2 (X1.trans X2)
        · have h1 : x.cps.toList.length = x.length := by simp [Str.length]
          rw [e, List.length_cons] at h1
          have h2 : (Str.mk r.toArray).length = r.length := by simp [Str.length]
          rw [h2]
          omega
        · simp only [fKN, knS, q', e, capL, Bool.true_and]
          rfl
end
end K01

namespace K01
open PySem L2 Way Evl
def spB3 (K : PySem.W.Frag) (f : PyData → PyData → PyData → Bool) : Sp := fun vs H Q _ => ∃ u v w d e g, vs = [u, v, w] ∧ PV K H u d ∧ PV K H v e ∧ PV K H w g ∧ ∀ H', Ex H H' → Q (.bl (f d e g)) H'
def spEl (K : PySem.W.Frag) : Sp := fun vs H Q _ => ∃ (n : Str) (w : V) (d : PyData), vs = [.str n, w] ∧ PV K H w d ∧ ∀ H', Ex H H' → Q (.bl (fEL n d)) H'
theorem ev_b3 {K : PySem.W.Frag} {H : Hp} {σ : L2.St} {tu tv tw : TE} {u v w : V} {d e g : PyData} {E : XK} {f : PyData → PyData → PyData → Bool} (hu : Ev tu σ H u) (hv : Ev tv σ H v) (hw : Ev tw σ H w) (pu : PV K H u d) (pv : PV K H v e) (pw : PV K H w g) : Ev (tCall (spB3 K f) [] E (tCons tu (tCons tv (tCons tw tNil)))) σ H (.bl (f d e g)) :=
  ev_call (ea_cons hu (ea_cons hv (ea_cons hw ea_nil))) fun H1 x Q q E => ⟨u, v, w, d, e, g, rfl, pu.mono x, pv.mono x, pw.mono x, fun H2 e2 => q H2 e2⟩
theorem ev_el {K : PySem.W.Frag} {H : Hp} {σ : L2.St} {tn tw : TE} {n : Str} {w : V} {d : PyData} {E : XK} (hn : Ev tn σ H (.str n)) (hw : Ev tw σ H w) (pw : PV K H w d) : Ev (tCall (spEl K) [] E (tCons tn (tCons tw tNil))) σ H (.bl (fEL n d)) :=
  ev_call (ea_cons hn (ea_cons hw ea_nil)) fun H1 x Q q E => ⟨n, w, d, rfl, pw.mono x, fun H2 e2 => q H2 e2⟩
/-- one != name, of an entry -/
def neN (n : Str) : PyData → Bool
  | .str x => !decide (x = n)
  | _ => true
def elA (n : Str) (ds : List PyData) : Bool := (ds.map fun d => fFN d && neN n d).all id
/-- the first two are apart -/
def apart : List PyData → Bool
  | .str x :: .str y :: _ => !decide (x = y)
  | _ => true
theorem fFN_str {d : PyData} (h : fFN d = true) : ∃ x, d = .str x := by
  cases d <;> simp [fFN] at h ⊢
theorem elds_eq (n : Str) : ∀ {ds : List PyData}, ds.length ≤ 2 → elds n ds = (elA n ds && apart ds)
  | [], _ => rfl
  | [d], _ => by
    cases d <;> simp [elds, elA, apart, fFN, neN]
  | [d, e], _ => by
    cases d <;> cases e <;> simp [elds, elA, apart, fFN, neN]
  | _ :: _ :: _ :: _, h => by simp at h
theorem elds_3 (n : Str) {ds : List PyData} (h : 2 < ds.length) : elds n ds = false := by
  match ds, h with
  | d :: e :: f :: r, _ => cases d <;> cases e <;> rfl
theorem EV_mono {K : PySem.W.Frag} {H H' : Hp} {d : PyData} {v : V} (h : EV K d v H) (e : Ex H H') : EV K d v H' := ⟨dpE_keep (.of e) h.2 h.1, h.2⟩
theorem ev_last {K : PySem.W.Frag} {H : Hp} {σ : L2.St} {a : Addr} {xs : List V} {ds : List PyData} {tl : TE} (sq : Sq2 K H a xs) (dpa : DpAll K H xs ds) (h2 : ds.length ≤ 2) (hA : ∀ d ∈ ds, ∃ x, d = .str x) (hσ : σ[1]? = some (some (.ref a))) (hl : Ev tl σ H (.int (ds.length : Int))) :
    Ev (tOrV (tOp (rI0 fun i j => .bl (decide (i < j))) tl (tC (.int 2))) (tOp rNe (tOp (rIx K) (tVar 1) (tC (.int 0))) (tOp (rIx K) (tVar 1) (tC (.int 1))))) σ H (.bl (apart ds)) := by
  have ix : ∀ (j : Nat) (v : V), xs[j]? = some v → Ev (tOp (rIx K) (tVar 1) (tC (.int (j : Int)))) σ H v := fun j v hj => ev_op (ev_var hσ) ev_c fun H3 X3 Q' q' => by
    rcases sq with sq | sq
    · exact .inl ⟨a, _, _, _, rfl, rfl, ex_l X3 sq, at_of (j := j) rfl hj, q' H3 (Ex.refl H3)⟩
    · exact .inr (.inl ⟨a, _, _, _, rfl, rfl, ex_t X3 sq, at_of (j := j) rfl hj, q' H3 (Ex.refl H3)⟩)
  cases dpa with
  | nil => exact ev_is (ev_orV (a := true) (b := true) (ev_is (ev_op hl ev_c rv_I0) rfl) fun q => nomatch q) rfl
  | @cons v1 vs d1 ds' a1 r =>
    obtain ⟨z1, rfl⟩ := hA _ (List.mem_cons_self ..)
    cases r with
    | nil => exact ev_is (ev_orV (a := true) (b := true) (ev_is (ev_op hl ev_c rv_I0) rfl) fun q => nomatch q) rfl
    | @cons v2 vs' d2 ds'' a2 r =>
      obtain ⟨z2, rfl⟩ := hA _ (List.mem_cons_of_mem _ (List.mem_cons_self ..))
      cases r with
      | cons _ _ => simp at h2
      | nil =>
        cases a1
        cases a2
        exact ev_is (ev_orV (a := false) (ev_is (ev_op hl ev_c rv_I0) rfl) fun _ => ev_op (ix 0 (.str z1) rfl) (ix 1 (.str z2) rfl) (rv_ne rfl)) (by simp [apart])
section
variable {P : Program} {w : World} {K : PySem.W.Frag} {mg : Str → Option Value} {base : Heap}
theorem ok_is_target (T : Txt P K mg) : FnOk P w K mg base CX0 3 T.f_is_target T.d_is_target P_is_target (spB1 K fTG) := by
  have G_is_kind_name := ok_is_kind_name (P := P) (w := w) (base := base) T
  refine T.F_is_target.ok sc_is_target (fun vs H Q E h => ?_) (fun cdv A outer s H vs Q E hr h => ?_)
  · obtain ⟨v, d, rfl, _⟩ := h
    rfl
  · obtain ⟨v, d, rfl, pq, kont⟩ := h
    refine ⟨_, (pss_one (ps_ret (pe_or (pe_call G_is_kind_name hr (by rfl) T.g_is_kind_name T.F_is_kind_name.kp T.B_is_kind_name .nil pass0 (pa_cons (pv 0) pa_nil)) (pe_one (pe_and (pe_callB call_isi (by rfl) T.b_isinstance (by decide +kernel) (pa_cons (pv 0) (pa_cons (pe_bltn (v := .ty "str") (by rfl) T.b_str (by decide +kernel) rfl) pa_nil))) (pe_one (pe_cmpR op_eq (pv 0) (pe_glob (v := .str "any") (by rfl) T.g_ANY ⟨_, rfl⟩) (nomark _)))))))), ?_⟩
    cases hs : isStr d with
    | false =>
      refine s_ret (ev_is (ev_orV (ev_b1 (ev_var rfl) pq) fun _ => ev_andV (a := false) (b := true) (ev_isd (ev_var rfl) pq (by rw [kd_str, hs])) fun q => nomatch q) ?_) fun H1 X1 => kont H1 X1
      cases d <;> simp_all [isStr, fTG, fAny]
    | true =>
      obtain ⟨x, rfl, rfl, hl⟩ := pv_isStr pq hs
      refine s_ret (ev_is (ev_orV (ev_b1 (ev_var rfl) pq) fun _ => ev_andV (ev_isd (ev_var rfl) pq kd_str) fun _ => ev_op (ev_var rfl) ev_c (rv_eq rfl)) ?_) fun H1 X1 => kont H1 X1
      simp [fTG, fAny, isStr]
theorem inV_modes (x : Str) : inV (.str x) [.str "mark", .str "link", .str "list"] = (decide (x = "mark") || (decide (x = "link") || decide (x = "list"))) := by
  have h : ∀ y : Str, eqV (.str y) (.str x) = decide (x = y) := fun y => by
    by_cases e : x = y
    · subst e; simp [eqV]
    · rw [decide_eq_false e]
      simp [eqV, Ne.symm e]
  unfold inV
  simp only [List.any_cons, List.any_nil, h, Bool.or_false]
theorem ok_fits_mode (T : Txt P K mg) : FnOk P w K mg base CX0 4 T.f_fits_mode T.d_fits_mode P_fits_mode (spB3 K fFM) := by
  have G_is_target := ok_is_target (P := P) (w := w) (base := base) T
  have G_is_integer := ok_is_integer (P := P) (w := w) (base := base) T
  refine T.F_fits_mode.ok sc_fits_mode (fun vs H Q E h => ?_) (fun cdv A outer s H vs Q E hr h => ?_)
  · obtain ⟨u, v, w, d, e, g, rfl, _⟩ := h
    rfl
  · obtain ⟨u, v, w, d, e, g, rfl, pu, pv', pw, kont⟩ := h
    refine ⟨_, (pss_cons (ps_if (PW.pt (pw_or (pt_not (pt_val (pe_callB call_isi (by rfl) T.b_isinstance (by decide +kernel) (pa_cons (pv 0) (pa_cons (pe_bltn (v := .ty "str") (by rfl) T.b_str (by decide +kernel) rfl) pa_nil))))) (pw_or (pt_cmpR op_notIn_seq (pv 0) (pe_glob (v := .ref T.w_MODES) (by rfl) T.g_MODES rfl) (by rfl)) (pw_or1 (pt_not (pt_val (pe_call G_is_integer (hr.mono (by decide)) (by rfl) T.g_is_integer T.F_is_integer.kp T.B_is_integer .nil pass0 (pa_cons (pv 2) pa_nil)))))))) (pss_one (ps_ret pe_bl)) pss_nil)
      (pss_cons (ps_if (pt_cmpR op_eq (pv 0) pe_str (nomark _)) (pss_one (ps_ret (pe_and (pe_cmpR op_isN (pv 1) pe_non (nomark _)) (pe_one (pe_chain op_lt op_lt (pe_un un_neg (pe_glob (v := .int 1000000000000) (by rfl) T.g_MOST_DEFAULT ⟨_, rfl⟩)) (pv 2) (pe_glob (v := .int 1000000000000) (by rfl) T.g_MOST_DEFAULT ⟨_, rfl⟩)))))) pss_nil)
      (pss_one (ps_ret (pe_and (pe_call G_is_target hr (by rfl) T.g_is_target T.F_is_target.kp T.B_is_target .nil pass0 (pa_cons (pv 1) pa_nil)) (pe_one (pe_cmpR op_eq (pv 2) pe_int (nomark _)))))))), ?_⟩
    cases hs : isStr d with
    | false =>
      refine q_when (b := true) (et_is (et_or (a := true) (b := true) (et_not (a := false) (et_B (ev_isd (ev_var rfl) pu (by rw [kd_str, hs])))) fun q => nomatch q) rfl) (fun _ H1 X1 => ?_) fun q => nomatch q
      refine s_ret (v := .bl (fFM d e g)) (ev_is ev_c ?_) fun H2 X2 => kont H2 (X1.trans X2)
      cases d <;> simp_all [isStr, fFM]
    | true =>
      obtain ⟨x, rfl, rfl, hl⟩ := pv_isStr pu hs
      have im := inV_modes x
      refine q_when (et_or (et_not (et_B (ev_isd (ev_var rfl) pu (by rw [kd_str, hs])))) fun _ => et_or (et_test (ev_op (ev_var rfl) ev_c (rv_niT (K := K) (T.ct_MODES H) rfl (Way.flat_strs ["mark", "link", "list"])))) fun _ => et_not (et_B (ev_b1 (ev_var rfl) pw))) (fun q H1 X1 => ?_) (fun q H1 X1 => ?_)
      · refine s_ret (v := .bl (fFM (.str x) e g)) (ev_is ev_c ?_) fun H2 X2 => kont H2 (X1.trans X2)
        rw [im] at q
        cases g <;> simp_all [fFM, isInt]
      · rw [im] at q
        have qi : isInt g = true := by
          cases h : isInt g with
          | true => rfl
          | false => simp [h] at q
        have qm : (decide (x = "mark") || (decide (x = "link") || decide (x = "list"))) = true := by
          cases h : (decide (x = "mark") || (decide (x = "link") || decide (x = "list"))) with
          | true => rfl
          | false => simp [h] at q
        obtain ⟨i, rfl⟩ : ∃ i, g = .int i := by cases g <;> simp [isInt] at qi ⊢
        have ew := pv_int pw
        subst ew
        refine q_when (b := decide (x = "mark")) (et_is (et_test (ev_op (ev_var rfl) ev_c (rv_eq rfl))) (by simp)) (fun q2 H2 X2 => ?_) (fun q2 H2 X2 => ?_)
        · have e2 := of_decide_eq_true q2
          refine s_ret (v := .bl (fFM (.str x) e (.int i))) (ev_is (ev_andV (ev_op (ev_var rfl) ev_c rv_isN) fun _ => ev_chain (ev_un ev_c ru_neg) (ev_var rfl) ev_c rv_I0 rv_I0) ?_) fun H3 X3 => kont H3 ((X1.trans X2).trans X3)
          rw [pv_isNon pv']
          simp only [fFM, if_pos e2]
          rfl
        · have e2 : ¬ x = "mark" := of_decide_eq_false q2
          refine s_ret (v := .bl (fFM (.str x) e (.int i))) (ev_is (ev_andV (ev_b1 (ev_var rfl) (pv'.mono (X1.trans X2))) fun _ => ev_op (ev_var rfl) ev_c (rv_eq rfl)) ?_) fun H3 X3 => kont H3 ((X1.trans X2).trans X3)
          have e3 : x = "link" ∨ x = "list" := by simpa [e2] using qm
          simp only [fFM, if_neg e2, if_pos e3]
          simp
theorem ok_are_elder_names (T : Txt P K mg) : FnOk P w K mg base CX0 3 T.f_are_elder_names T.d_are_elder_names P_are_elder_names (spEl K) := by
  have G_is_field_name := ok_is_field_name (P := P) (w := w) (base := base) T
  refine T.F_are_elder_names.ok sc_are_elder_names (fun vs H Q E h => ?_) (fun cdv A outer s H vs Q E hr h => ?_)
  · obtain ⟨n, v, d, rfl, _⟩ := h
    rfl
  · obtain ⟨n, v, d, rfl, pq, kont⟩ := h
    refine ⟨_, (pss_cons (ps_if (PW.pt (pw_or (pt_not (pt_val (pe_callB call_isiT (by rfl) T.b_isinstance (by decide +kernel) (pa_cons (pv 1) (pa_cons (pe_tup (pa_cons (pe_bltn (v := .ty "list") (by rfl) T.b_list (by decide +kernel) rfl) (pa_cons (pe_bltn (v := .ty "tuple") (by rfl) T.b_tuple (by decide +kernel) rfl) pa_nil))) pa_nil))))) (pw_or1 (pt_cmpR op_gt (pe_callB call_len_seq (by rfl) T.b_len (by decide +kernel) (pa_cons (pv 1) pa_nil)) (pe_glob (v := .int 2) (by rfl) T.g_MOST_WAS ⟨_, rfl⟩) (nomark _))))) (pss_one (ps_ret pe_bl)) pss_nil)
      (pss_cons (ps_if (pt_not (pt_val (pe_callB (cr_all rfl) (by rfl) T.b_all (by decide +kernel) (pa_cons (pe_lc (own := [("one", 2)]) (g := gName 2) (by rfl) sc_are_elder_names.nd (Way.pi_sq (pv 1)) (blkOk_by (own := [("one", 2)]) (N := N_are_elder_names) (sc := defScope s_are_elder_names) (by decide +kernel)) (fun _ _ _ _ _ => (pg_name (i := 2) sc_are_elder_names.nd rfl (Or.inl rfl))) (fun _ _ _ _ _ => pts_nil) (fun _ _ _ _ _ => (pe_and (pe_call G_is_field_name hr (by rfl) T.g_is_field_name T.F_is_field_name.kp T.B_is_field_name .nil pass0 (pa_cons (pv 2) pa_nil)) (pe_one (pe_cmpR op_ne (pv 2) (pv 0) (nomark _)))))) pa_nil)))) (pss_one (ps_ret pe_bl)) pss_nil)
      (pss_one (ps_ret (pe_or (pe_cmpR op_lt (pe_callB call_len_seq (by rfl) T.b_len (by decide +kernel) (pa_cons (pv 1) pa_nil)) pe_int (nomark _)) (pe_one (pe_cmpR op_ne (pe_ix ix_seq (pv 1) pe_int (fun _ _ => rfl)) (pe_ix ix_seq (pv 1) pe_int (fun _ _ => rfl)) (nomark _)))))))), ?_⟩
    cases hs : isSq d with
    | false =>
      refine q_when (b := true) (et_is (et_or (a := true) (b := true) (et_not (a := false) (et_B (ev_is (ev_isSq (ev_var rfl) pq) (by rw [hs])))) fun q => nomatch q) rfl) (fun _ H1 X1 => ?_) fun q => nomatch q
      refine s_ret (v := .bl (fEL n d)) (ev_is ev_c ?_) fun H2 X2 => kont H2 (X1.trans X2)
      simp [fEL, isSq_no hs]
    | true =>
      obtain ⟨ds, hd⟩ := isSq_seq hs
      obtain ⟨a, xs, rfl, sq, dpa, pa, hl⟩ := pv_seq pq hd
      have px := ev_all' dpa pa
      have hlen : xs.length = ds.length := dpAll_len dpa
      have fe : fEL n d = elds n ds := by simp [fEL, hd]
      rw [fe] at kont
      have elen : ∀ H1, Ex H H1 → Ev (tCB (rLenS K) (tCons (tVar 1) tNil)) [some (.str n), some (.ref a), none] H1 (.int (ds.length : Int)) := fun H1 X1 => ev_is (ev_cb (ea_cons (ev_var rfl) ea_nil) fun H2 X2 _ q => ⟨a, xs, rfl, sq.mono (X1.trans X2), q H2 (Ex.refl H2)⟩) (by rw [hlen])
      refine q_when (et_or (et_not (et_B (ev_is (ev_isSq (ev_var rfl) pq) (by rw [hs])))) fun _ => et_test (ev_op (elen H (Ex.refl H)) ev_c rv_I0)) (fun q H1 X1 => ?_) (fun q H1 X1 => ?_)
      · refine s_ret (v := .bl (elds n ds)) (ev_is ev_c ?_) fun H2 X2 => kont H2 (X1.trans X2)
        rw [elds_3 n (by have : (2 : Int) < (ds.length : Int) := by simpa using q
                         omega)]
      · have h2 : ds.length ≤ 2 := by
          have : ¬ (2 : Int) < (ds.length : Int) := by simpa using q
          omega
        rw [elds_eq n h2] at kont
        refine q_when (b := !elA n ds) (et_not (et_B (ev_all ?_))) (fun q1 H2 X2 => ?_) (fun q1 H2 X2 => ?_)
        · rw [List.map_map]
          refine el_mapQ (K := K) (P := EV K) (S := ds) (w := fun d => .bl (fFN d && neN n d)) (ev_var rfl) (sq.mono X1) (Paired.mapP px fun x d h => EV_mono h X1) (by omega) (fun _ => rfl) fun x d H2 X2 hd hx => ?_
          have pe := hx.pv.mono X2
          cases hf : fFN d with
          | false => exact ev_is (ev_andV (a := false) (b := true) (ev_is (ev_b1 (ev_var rfl) pe) (by rw [hf])) fun q => nomatch q) rfl
          | true =>
            obtain ⟨y, rfl⟩ := fFN_str hf
            obtain ⟨rfl, _⟩ := pv_str pe
            exact ev_is (ev_andV (ev_is (ev_b1 (ev_var rfl) pe) (by rw [hf])) fun _ => ev_op (ev_var rfl) (ev_var rfl) (rv_ne rfl)) (by simp [neN])
        · refine s_ret (v := .bl (elA n ds && apart ds)) (ev_is ev_c ?_) fun H3 X3 => kont H3 ((X1.trans X2).trans X3)
          have q1' : elA n ds = false := by simpa using q1
          rw [q1']; rfl
        · have q1' : elA n ds = true := by simpa using q1
          rw [q1', Bool.true_and] at kont
          have X := X1.trans X2
          refine s_ret (v := .bl (apart ds)) (ev_last (sq.mono X) (dpAll_keep (.of X) pa dpa) h2 (fun d hd => ?_) rfl (elen H2 X)) fun H3 X3 => kont H3 (X.trans X3)
          have := List.all_eq_true.mp q1' _ (List.mem_map.mpr ⟨d, hd, rfl⟩)
          simp only [id, Bool.and_eq_true] at this
          exact fFN_str this.1
end
end K01

namespace K01
open PySem L2 Way Evl
/-! fields, as they are made -/
structure Fd where
  name : Str
  mode : Str
  tgt : Option Str
  dfl : Int
  was : List Str
deriving DecidableEq
def oV : Option Str → V
  | none => .non
  | some x => .str x
def oD : Option Str → PyData
  | none => .none
  | some x => .str x
/-- the field f at v -/
def FAt (K : PySem.W.Frag) (C : Addr) (f : Fd) (v : V) (H : Hp) : Prop := ∃ a dx fs wt, v = .ref a ∧ H a = some (.ins C dx fs) ∧ fs.lookup ("name" : Str) = some (.str f.name) ∧ fs.lookup ("mode" : Str) = some (.str f.mode) ∧ fs.lookup ("target" : Str) = some (oV f.tgt) ∧ fs.lookup ("default" : Str) = some (.int f.dfl) ∧ fs.lookup ("was" : Str) = some (.ref wt) ∧ SqT K H wt (f.was.map V.str) ∧ f.was.all PyData.strOk = true
theorem FAt.mono {K : PySem.W.Frag} {C : Addr} {f : Fd} {v : V} {H H' : Hp} (e : Ex H H') (h : FAt K C f v H) : FAt K C f v H' :=
  let ⟨a, dx, fs, wt, h1, h2, h3, h4, h5, h6, h7, h8, h9⟩ := h
  ⟨a, dx, fs, wt, h1, e _ _ h2, h3, h4, h5, h6, h7, ex_t e h8, h9⟩
/-- a change that spares instances and tuples -/
structure KpI (K : PySem.W.Frag) (H H' : Hp) : Prop where
  i : ∀ b C dx fs, H b = some (.ins C dx fs) → H' b = some (.ins C dx fs)
  t : ∀ a xs, SqT K H a xs → SqT K H' a xs
theorem KpI.kp {K : PySem.W.Frag} {H H' : Hp} {s : Addr} (k : Kp s H H') (h1 : ∀ C dx fs, H s ≠ some (.ins C dx fs)) (h2 : ∀ xs, H s ≠ some (.tup xs)) (h3 : ∀ o u, H s ≠ some (.frz o u)) : KpI K H H' := by
  refine ⟨fun b C dx fs h => k _ _ (fun z => by rw [z] at h; exact h1 _ _ _ h) h, fun a xs h => ?_⟩
  rcases h with (h | ⟨ob, h⟩) | h
  · exact .inl (.inl (k _ _ (fun z => by rw [z] at h; exact h2 _ h) h))
  · exact .inl (.inr ⟨ob, k _ _ (fun z => by rw [z] at h; exact h3 _ _ h) h⟩)
  · exact .inr h
theorem kpi_lst {K : PySem.W.Frag} {H H' : Hp} {s : Addr} {xs : List V} (h : H s = some (.lst xs)) (k : Kp s H H') : KpI K H H' := .kp k (fun C dx fs q => by rw [h] at q; cases q) (fun xs q => by rw [h] at q; cases q) fun o u q => by rw [h] at q; cases q
theorem kpi_dK {K : PySem.W.Frag} {H H' : Hp} {s : Addr} {xs : List (Key × V)} (h : H s = some (.dK xs)) (k : Kp s H H') : KpI K H H' := .kp k (fun C dx fs q => by rw [h] at q; cases q) (fun xs q => by rw [h] at q; cases q) fun o u q => by rw [h] at q; cases q
theorem FAt.keep {K : PySem.W.Frag} {C : Addr} {f : Fd} {v : V} {H H' : Hp} (e : KpI K H H') (h : FAt K C f v H) : FAt K C f v H' :=
  let ⟨a, dx, fs, wt, h1, h2, h3, h4, h5, h6, h7, h8, h9⟩ := h
  ⟨a, dx, fs, wt, h1, e.i _ _ _ _ h2, h3, h4, h5, h6, h7, e.t _ _ h8, h9⟩
/-- the data of f -/
structure FdD (f : Fd) (dn dm dt df dw : PyData) : Prop where
  n : dn = .str f.name
  m : dm = .str f.mode
  t : dt = oD f.tgt
  d : df = .int f.dfl
  w : seqOf dw = some (f.was.map .str)
theorem elds_strs {n : Str} : ∀ {ds : List PyData}, elds n ds = true → ∃ ws : List Str, ds = ws.map .str ∧ ws.length ≤ 2
  | [], _ => ⟨[], rfl, by simp⟩
  | [d], h => by
    cases d with
    | str x => exact ⟨[x], rfl, by simp⟩
    | _ => simp [elds] at h
  | [d, e], h => by
    cases d with
    | str x => cases e with
      | str y => exact ⟨[x, y], rfl, by simp⟩
      | _ => simp [elds] at h
    | _ => cases e <;> simp [elds] at h
  | d :: e :: f :: r, h => by rw [elds_3 n (by simp)] at h; cases h
theorem fTG_str {d : PyData} (h : fTG d = true) : ∃ x, d = .str x := by
  cases d <;> simp [fTG, fKN, fAny] at h ⊢
theorem right_fd {dn dm dt df dw : PyData} (h : fFR dn dm dt df dw = true) : ∃ f, FdD f dn dm dt df dw := by
  cases dn with
  | str n =>
    simp only [fFR, Bool.and_eq_true] at h
    obtain ⟨h1, h2, h3⟩ := h
    obtain ⟨m, i, rfl, rfl, t, rfl⟩ : ∃ m i, dm = .str m ∧ df = .int i ∧ ∃ t, dt = oD t := by
      cases dm with
      | str m => cases df with
        | int i =>
          simp only [fFM] at h2
          refine ⟨m, i, rfl, rfl, ?_⟩
          split at h2
          · cases dt with
            | none => exact ⟨none, rfl⟩
            | _ => simp [Way.isNon] at h2
          · split at h2
            · simp only [Bool.and_eq_true] at h2
              obtain ⟨x, rfl⟩ := fTG_str h2.1
              exact ⟨some x, rfl⟩
            · cases h2
        | _ => simp [fFM] at h2
      | _ => simp [fFM] at h2
    unfold fEL at h3
    cases e : seqOf dw with
    | none => rw [e] at h3; cases h3
    | some ds =>
      rw [e] at h3
      obtain ⟨ws, rfl, _⟩ := elds_strs h3
      exact ⟨⟨n, m, t, i, ws⟩, rfl, rfl, rfl, rfl, e⟩
  | _ => simp [fFR] at h
theorem pv_o {K : PySem.W.Frag} {H : Hp} {v : V} {o : Option Str} (p : PV K H v (oD o)) : v = oV o := by
  cases o with
  | none => exact pv_none p
  | some x => exact (pv_str p).1
theorem dp_strs_inv {K : PySem.W.Frag} {H : Hp} : ∀ {ws : List Str} {xs : List V}, DpAll K H xs (ws.map .str) → xs = ws.map V.str
  | [], _, .nil => rfl
  | w :: ws, _, .cons a r => by
    cases a
    rw [dp_strs_inv r]
    rfl
theorem plS_ok {x : Str} (h : plS x = true) : PyData.strOk x = true := by
  simp only [plS, Bool.and_eq_true] at h
  unfold PyData.strOk
  rw [← Array.all_toList]
  refine List.all_eq_true.mpr fun c hc => ?_
  have := List.all_eq_true.mp h.1 c hc
  simp only [plC, Bool.or_eq_true, Bool.and_eq_true, decide_eq_true_eq, beq_iff_eq] at this
  exact decide_eq_true (by omega)
theorem strs_ok : ∀ {ws : List Str}, (ws.map PyData.str).all plE = true → ws.all PyData.strOk = true
  | [], _ => rfl
  | x :: r, h => by
    rw [List.map_cons, List.all_cons, Bool.and_eq_true] at h
    rw [List.all_cons, plS_ok h.1, strs_ok h.2]; rfl
def spFld (K : PySem.W.Frag) (C CB : Addr) : Sp := fun vs H Q E => ∃ x dx n m t df w dn dm dt ddf dw, vs = [.ref x, n, m, t, df, w] ∧ H x = some (.ins C dx []) ∧ PV K H n dn ∧ PV K H m dm ∧ PV K H t dt ∧ PV K H df ddf ∧ PV K H w dw ∧
  (∀ f, FdD f dn dm dt ddf dw → fFR dn dm dt ddf dw = true → ∀ H', Kp x H H' → FAt K C f (.ref x) H' → Q .non H') ∧ (fFR dn dm dt ddf dw = false → ∀ d H', Ex H H' → H' d = some (.xd [("name", n)]) → E (.ref CB) (some d) H')
/-- tuple(x) -/
theorem ex_tupOf {K : PySem.W.Frag} {H : Hp} {σ : L2.St} {te : TE} {a : Addr} {xs : List V} (h : Ev te σ H (.ref a)) (sq : Sq2 K H a xs) : EvX (tCB (fun xs H Q => ∃ p ys, xs = [V.ref p] ∧ ((SqL K H p ys ∧ ∀ l, H l = none → Q (.ref l) (upd H l (.tup ys))) ∨ (SqT K H p ys ∧ Q (.ref p) H))) (tCons te tNil)) σ H (fun y H' => ∃ wt, y = .ref wt ∧ SqT K H' wt xs) := fun H1 e Q q =>
  h H1 e _ fun H2 e2 => ⟨a, xs, rfl, (sq.mono (e.trans e2)).elim (fun s => .inl ⟨s, fun l hl => q _ _ (e2.trans (Ex.new hl)) ⟨l, rfl, SqT.of upd_same⟩⟩) fun s => .inr ⟨s, q _ _ e2 ⟨a, rfl, s⟩⟩⟩
theorem kp_ins {x C dx : Addr} {fs : List (Str × V)} {H H1 H2 : Hp} (k : Kp x H H1) (e : Ex H1 H2) : Kp x H (upd H2 x (.ins C dx fs)) := Kp.set (Kp.trans k (Kp.of e))
section
variable {P : Program} {w : World} {K : PySem.W.Frag} {mg : Str → Option Value} {base : Heap}
theorem ok_Field_init (T : Txt P K mg) : FnOk P w K mg base (L2.CX P w) 5 T.f_Field_init T.d_Field_init P_Field_init (spFld K T.C_Field T.C_BadField) := by
  have G_is_field_name := ok_is_field_name (P := P) (w := w) (base := base) T
  have G_fits_mode := ok_fits_mode (P := P) (w := w) (base := base) T
  have G_are_elder_names := ok_are_elder_names (P := P) (w := w) (base := base) T
  have G_BadField_init := ok_BadField_init (P := P) (w := w) (base := base) T
  refine T.F_Field_init.ok sc_Field_init (fun vs H Q E h => ?_) (fun cdv A outer s H vs Q E hr h => ?_)
  · obtain ⟨x, dx, n, m, t, df, w, dn, dm, dt, ddf, dw, rfl, _⟩ := h
    rfl
  · obtain ⟨x, dx, n, m, t, df, w, dn, dm, dt, ddf, dw, rfl, hx, pn, pm, pt', pdf, pw, kq, ke⟩ := h
    refine ⟨_, (pss_cons (ps_if (PW.pt (pw_or (pt_not (pt_val (pe_call G_is_field_name (hr.mono (by decide)) (by rfl) T.g_is_field_name T.F_is_field_name.kp T.B_is_field_name .nil pass0 (pa_cons (pv 1) pa_nil)))) (pw_or (pt_not (pt_val (pe_call G_fits_mode hr (by rfl) T.g_fits_mode T.F_fits_mode.kp T.B_fits_mode .nil pass0 (pa_cons (pv 2) (pa_cons (pv 3) (pa_cons (pv 4) pa_nil)))))) (pw_or1 (pt_not (pt_val (pe_call G_are_elder_names (hr.mono (by decide)) (by rfl) T.g_are_elder_names T.F_are_elder_names.kp T.B_are_elder_names .nil pass0 (pa_cons (pv 1) (pa_cons (pv 5) pa_nil))))))))) (pss_one (ps_raise rfl (takes_of rfl rfl rfl rfl) (pmk_oex T.X_BadField.oex T.i_BadField T.t_BadField G_BadField_init (hr.mono (by decide)) T.B_BadField_init .nil pass0 (by rfl) T.g_BadField (pa_cons (pv 1) pa_nil)))) pss_nil)
      (pss_cons (ps_fld (pv 0) (pv 1) rfl)
      (pss_cons (ps_fld (pv 0) (pv 2) rfl)
      (pss_cons (ps_fld (pv 0) (pv 3) rfl)
      (pss_cons (ps_fld (pv 0) (pv 4) rfl)
      (pss_one (ps_fld (pv 0) (pe_callTy call_tuple_of (by rfl) T.b_tuple (by decide +kernel) (pa_cons (pv 5) pa_nil)) rfl))))))), ?_⟩
    have bad : ∀ H1, Ex H H1 → fFR dn dm dt ddf dw = false → tMkO T.C_BadField (spX1 T.C_BadField "name") [] (tCons (tVar 1) tNil) [some (.ref x), some n, some m, some t, some df, some w] H1 fun cls d H' => E cls d H' := fun H1 X1 hf =>
      mko1 (ea_cons (ev_var rfl) ea_nil) fun d H2 X2 hd => ke hf d H2 (X1.trans X2) hd
    cases hn : fFN dn with
    | false =>
      refine q_when (b := true) (et_is (et_or (a := true) (b := true) (et_not (a := false) (et_B (ev_is (ev_b1 (ev_var rfl) pn) (by rw [hn])))) fun q => nomatch q) rfl) (fun _ H1 X1 => ?_) fun q => nomatch q
      exact bad H1 X1 (by cases dn <;> simp_all [fFN, fFR])
    | true =>
      obtain ⟨z, rfl⟩ := fFN_str hn
      obtain ⟨rfl, _⟩ := pv_str pn
      have hn' : fnS z = true := hn
      refine q_when (b := !fFR (.str z) dm dt ddf dw) (et_is (et_or (et_not (et_B (ev_b1 (ev_var rfl) pn))) fun _ => et_or (et_not (et_B (ev_b3 (ev_var rfl) (ev_var rfl) (ev_var rfl) pm pt' pdf))) fun _ => et_not (et_B (ev_el (ev_var rfl) (ev_var rfl) pw))) ?_) (fun q H1 X1 => ?_) (fun q H1 X1 => ?_)
      · simp only [fFR, hn, hn', Bool.true_and, Bool.not_true, Bool.false_or, Bool.not_and]
      · exact bad H1 X1 (by simpa using q)
      · have hr' : fFR (.str z) dm dt ddf dw = true := by simpa using q
        obtain ⟨f, hf⟩ := right_fd hr'
        have ef := hf
        obtain ⟨e1, e2, e3, e4, e5⟩ := hf
        subst e2 e3 e4
        obtain ⟨rfl, _⟩ := pv_str pm
        obtain rfl := pv_o pt'
        obtain rfl := pv_int pdf
        cases e1
        obtain ⟨wa, xs, rfl, sq, dpa, ple, _⟩ := pv_seq pw e5
        obtain rfl := dp_strs_inv dpa
        refine q_setF (ev_var rfl) (ev_var rfl) (X1 _ _ hx) T.cl_Field T.na_Field_name (by decide) fun H2 X2 => ?_
        have K2 : Kp x H _ := kp_ins (C := T.C_Field) (dx := dx) (fs := putF "name" (.str f.name) []) (Kp.of X1) X2
        refine q_setF (ev_var rfl) (ev_var rfl) upd_same T.cl_Field T.na_Field_mode (Nat.lt_of_le_of_lt (len_put (n := 0) (Nat.le_refl _)) (by decide)) fun H3 X3 => ?_
        have K3 := kp_ins (C := T.C_Field) (dx := dx) (fs := putF "mode" (.str f.mode) (putF "name" (.str f.name) [])) K2 X3
        refine q_setF (ev_var rfl) (ev_var rfl) upd_same T.cl_Field T.na_Field_target (Nat.lt_of_le_of_lt (len_put (n := 1) (len_put (n := 0) (Nat.le_refl _))) (by decide)) fun H4 X4 => ?_
        have K4 := kp_ins (C := T.C_Field) (dx := dx) (fs := putF "target" (oV f.tgt) (putF "mode" (.str f.mode) (putF "name" (.str f.name) []))) K3 X4
        refine q_setF (ev_var rfl) (ev_var rfl) upd_same T.cl_Field T.na_Field_default (Nat.lt_of_le_of_lt (len_put (n := 2) (len_put (n := 1) (len_put (n := 0) (Nat.le_refl _)))) (by decide)) fun H5 X5 => ?_
        have K5 := kp_ins (C := T.C_Field) (dx := dx) (fs := putF "default" (.int f.dfl) (putF "target" (oV f.tgt) (putF "mode" (.str f.mode) (putF "name" (.str f.name) [])))) K4 X5
        have sq5 : Sq2 K _ wa (f.was.map V.str) := sq.elim (fun s => .inl ((Kps.kp (off_ins hx) K5).l _ _ (by
          have := dpAll_len dpa
          simp only [List.length_map] at this ⊢
          have h3 : f.was.length ≤ 3 := by
            obtain ⟨_, _, _, _, _, _, h3⟩ := pv_seq pw e5
            simpa using h3
          exact h3) s)) fun s => .inr ((Kps.kp (off_ins hx) K5).t _ _ s)
        refine s_setFX (P := fun y H' => ∃ wt, y = .ref wt ∧ SqT K H' wt (f.was.map V.str)) (ex_tupOf (ev_var rfl) sq5) (fun H6 X6 => ev_var rfl) upd_same T.cl_Field T.na_Field_was (Nat.lt_of_le_of_lt (len_put (n := 3) (len_put (n := 2) (len_put (n := 1) (len_put (n := 0) (Nat.le_refl _))))) (by decide)) (fun y H6 H7 e ⟨wt, h1, h2⟩ => ⟨wt, h1, ex_t e h2⟩) fun y H6 X6 ⟨wt, ey, hw⟩ => ?_
        subst ey
        refine kq f ef hr' _ (kp_ins K5 X6) ⟨x, dx, _, wt, rfl, upd_same, ?_, ?_, ?_, ?_, lk_same, ?_, strs_ok ple⟩
        · rw [lk_ne (by decide +kernel), lk_ne (by decide +kernel), lk_ne (by decide +kernel), lk_ne (by decide +kernel), lk_same]
        · rw [lk_ne (by decide +kernel), lk_ne (by decide +kernel), lk_ne (by decide +kernel), lk_same]
        · rw [lk_ne (by decide +kernel), lk_ne (by decide +kernel), lk_same]
        · rw [lk_ne (by decide +kernel), lk_same]
        · have h6 := X6 _ _ (upd_same : (upd H5 x (.ins T.C_Field dx (putF "default" (.int f.dfl) (putF "target" (oV f.tgt) (putF "mode" (.str f.mode) (putF "name" (.str f.name) [])))))) x = _)
          exact (Kps.kp (K := K) (off_ins h6) (Kp.set (Kp.refl _ _))).t _ _ hw
end
end K01

namespace K01
open PySem L2 Way Evl
theorem eqv_strs : ∀ l l' : List Str, PyData.eqv (.tuple (l.map .str)) (.tuple (l'.map .str)) = decide (l = l')
  | [], [] => by simp [PyData.eqv, PyData.eqvAll]
  | [], b :: r => by simp [PyData.eqv, PyData.eqvAll]
  | a :: l, [] => by simp [PyData.eqv, PyData.eqvAll]
  | a :: l, b :: r => by
    have ih := eqv_strs l r
    simp only [PyData.eqv] at ih
    simp only [PyData.eqv, List.map_cons, PyData.eqvAll, ih]
    by_cases h : a = b
    · subst h; simp
    · have : (a == b) = false := beq_eq_false_iff_ne.mpr h
      rw [this]; simp [h]
theorem shp_strs {l : List Str} (h : l.all PyData.strOk = true) : Shp 1 (.tuple (l.map PyData.str)) := shp_tup fun d hd => by
  obtain ⟨b, hb, rfl⟩ := List.mem_map.mp hd
  exact ⟨by simp only [PyData.canLay0]; exact List.all_eq_true.mp h b hb, by simp only [PyData.depth]; omega⟩
theorem dp_was {K : PySem.W.Frag} {H : Hp} {t : Addr} {l : List Str} (h : SqT K H t (l.map V.str)) : ∀ H1, Ex H H1 → Dp K H1 (.ref t) (.tuple (l.map PyData.str)) := fun H1 e => .tup (ex_t e h) (dp_strs l)
theorem scal_o (a b : Option Str) : scal (oV a) (oV b) = true := by cases a <;> cases b <;> rfl
theorem oV_eq (a b : Option Str) : decide (oV a = oV b) = decide (a = b) := by
  cases a with
  | none => cases b with
    | none => rfl
    | some y => simp [oV]
  | some x => cases b with
    | none => simp [oV]
    | some y => simp [oV]
/-- y is nothing of the class C -/
def NoC (K : PySem.W.Frag) (y : V) (H : Hp) : Prop := ∃ T l, TyX K H y (.type T) ∧ fastBuiltinMro T = some l ∧ ∀ a, l.contains (.ref a) = false
theorem noC_mro (d : PyData) : ∃ l, fastBuiltinMro (tyD d) = some l ∧ ∀ a, l.contains (.ref a) = false := by
  cases d
  · exact ⟨[.type "NoneType", .type "object"], by kernel_rfl, fun a => rfl⟩
  · exact ⟨[.type "bool", .type "int", .type "object"], by kernel_rfl, fun a => rfl⟩
  · exact ⟨[.type "int", .type "object"], by kernel_rfl, fun a => rfl⟩
  · exact ⟨[.type "str", .type "object"], by kernel_rfl, fun a => rfl⟩
  · exact ⟨[.type "list", .type "object"], by kernel_rfl, fun a => rfl⟩
  · exact ⟨[.type "tuple", .type "object"], by kernel_rfl, fun a => rfl⟩
  · exact ⟨[.type "dict", .type "object"], by kernel_rfl, fun a => rfl⟩
theorem noC_pv {K : PySem.W.Frag} {y : V} {H : Hp} {d : PyData} (p : PV K H y d) : NoC K y H := let ⟨l, h1, h2⟩ := noC_mro d; ⟨_, l, p.ty, h1, h2⟩
theorem noC_tup {K : PySem.W.Frag} {a : Addr} {H : Hp} {xs : List V} (h : H a = some (.tup xs)) : NoC K (.ref a) H := let ⟨l, h1, h2⟩ := noC_mro (.tuple []); ⟨_, l, .base (.tup h), h1, h2⟩
/-- == of a field -/
def RF (K : PySem.W.Frag) (C : Addr) : Addr → V → Hp → Bool → Prop := fun a y H b => ∃ f, FAt K C f (.ref a) H ∧ ((∃ g, FAt K C g y H ∧ b = decide (f = g)) ∨ ((∀ H', Ex H H' → NoC K y H') ∧ b = false))
theorem fd_eq (f g : Fd) : decide (f = g) = (decide (f.name = g.name) && (decide (f.mode = g.mode) && (decide (f.tgt = g.tgt) && (decide (f.dfl = g.dfl) && decide (f.was = g.was))))) := by
  cases f; cases g
  simp only [Fd.mk.injEq, Bool.decide_and]
section
variable {P : Program} {w : World} {K : PySem.W.Frag} {mg : Str → Option Value} {base : Heap}
theorem ok_Field_eq (T : Txt P K mg) : FnOk P w K mg base CX0 1 T.f_Field_eq T.d_Field_eq P_Field_eq (spEqB (RF K T.C_Field)) := by
  refine T.F_Field_eq.ok sc_Field_eq (fun vs H Q E h => ?_) (fun cdv A outer s H vs Q E hr h => ?_)
  · obtain ⟨a, y, b, rfl, _⟩ := h
    rfl
  · obtain ⟨a, y, b, rfl, ⟨f, hf, hy⟩, kont⟩ := h
    refine ⟨_, (pss_one (ps_ret (pe_and (pe_callB call_isi (by rfl) T.b_isinstance (by decide +kernel) (pa_cons (pv 1) (pa_cons (pe_glob (v := .ref T.C_Field) (by rfl) T.g_Field rfl) pa_nil))) (pe_and (pe_cmpR op_eq (pe_fld (pv 0) rfl) (pe_fld (pv 1) rfl) (nomark _)) (pe_and (pe_cmpR op_eq (pe_fld (pv 0) rfl) (pe_fld (pv 1) rfl) (nomark _)) (pe_and (pe_cmpR op_eq (pe_fld (pv 0) rfl) (pe_fld (pv 1) rfl) (nomark _)) (pe_and (pe_cmpR op_eq (pe_fld (pv 0) rfl) (pe_fld (pv 1) rfl) (nomark _)) (pe_one (pe_cmpR (op_eqD hr.units) (pe_fld (pv 0) rfl) (pe_fld (pv 1) rfl) (nomark _)))))))))), ?_⟩
    obtain ⟨a', dx, fs, wt, e1, h1, h2, h3, h4, h5, h6, h7, h8⟩ := hf
    cases e1
    rcases hy with ⟨g, hg, rfl⟩ | ⟨hy, rfl⟩
    · obtain ⟨c, dy, gs, wt', rfl, g1, g2, g3, g4, g5, g6, g7, g8⟩ := hg
      refine s_ret (ev_is (ev_andV (ev_cb (ea_cons (ev_var rfl) (ea_cons ev_c ea_nil)) (rc_isi (.own _) (fun H1 X1 => T.ic_Field.ty T.cl_Field (X1 _ _ g1)) kit_self)) fun _ => ev_andV (ev_op (ev_fld (ev_var rfl) h1 T.cl_Field T.na_Field_name h2) (ev_fld (ev_var rfl) g1 T.cl_Field T.na_Field_name g2) (rv_eq rfl)) fun _ =>
        ev_andV (ev_op (ev_fld (ev_var rfl) h1 T.cl_Field T.na_Field_mode h3) (ev_fld (ev_var rfl) g1 T.cl_Field T.na_Field_mode g3) (rv_eq rfl)) fun _ => ev_andV (ev_op (ev_fld (ev_var rfl) h1 T.cl_Field T.na_Field_target h4) (ev_fld (ev_var rfl) g1 T.cl_Field T.na_Field_target g4) (rv_eq (scal_o _ _))) fun _ =>
        ev_andV (ev_op (ev_fld (ev_var rfl) h1 T.cl_Field T.na_Field_default h5) (ev_fld (ev_var rfl) g1 T.cl_Field T.na_Field_default g5) (rv_eq rfl)) fun _ => ev_op (ev_fld (ev_var rfl) h1 T.cl_Field T.na_Field_was h6) (ev_fld (ev_var rfl) g1 T.cl_Field T.na_Field_was g6) (rv_eqD (dp_was h7) (dp_was g7) (shp_strs h8).ok (shp_strs g8).ok)) ?_) fun H1 X1 => kont H1 X1
      rw [eqv_strs, oV_eq, fd_eq]
      simp
    · obtain ⟨Tn, l, ty, m1, m2⟩ := hy H (Ex.refl H)
      exact s_ret (v := .bl false) (ev_is (ev_andV (a := false) (b := true) (ev_cb (ea_cons (ev_var rfl) (ea_cons ev_c ea_nil)) (fun H1 X1 Q' q' => by
        obtain ⟨Tn, l, ty, m1, m2⟩ := hy H1 X1
        exact ⟨y, _, .type Tn, _, false, rfl, .own _, ty, kit_no T.ic_Field T.cl_Field m1 m2, q' H1 (Ex.refl H1)⟩)) fun z => nomatch z) rfl) fun H1 X1 => kont H1 X1
end
/-! what stands in the place of fields -/
inductive El
  | fld (f : Fd)
  | dat (d : PyData)
def ElAt (K : PySem.W.Frag) (C : Addr) : El → V → Hp → Prop
  | .fld f, v, H => FAt K C f v H
  | .dat d, v, H => PV K H v d
theorem elAt_mono {K : PySem.W.Frag} {C : Addr} : Mon (ElAt K C) := fun e v H H' x h => by
  cases e with
  | fld f => exact FAt.mono x h
  | dat d => exact PV.mono x h
inductive Fv
  | seq (isL : Bool) (es : List El)
  | dat (d : PyData)
def SqB (K : PySem.W.Frag) (H : Hp) (b : Bool) (a : Addr) (xs : List V) : Prop := match b with
  | true => H a = some (.lst xs)
  | false => SqT K H a xs
theorem SqB.sq {K : PySem.W.Frag} {H : Hp} {b : Bool} {a : Addr} {xs : List V} (h : SqB K H b a xs) : Sq2 K H a xs := by
  cases b with
  | true => exact .inl (SqL.of h)
  | false => exact .inr h
theorem SqB.mono {K : PySem.W.Frag} {H H' : Hp} {b : Bool} {a : Addr} {xs : List V} (e : Ex H H') (h : SqB K H b a xs) : SqB K H' b a xs := by
  cases b with
  | true => exact e _ _ h
  | false => exact ex_t e h
def FvAt (K : PySem.W.Frag) (C : Addr) : Fv → V → Hp → Prop
  | .seq b es, v, H => ∃ a xs, v = .ref a ∧ SqB K H b a xs ∧ Paired (fun x e => ElAt K C e x H) xs es
  | .dat d, v, H => PV K H v d ∧ isSq d = false
theorem fvAt_mono {K : PySem.W.Frag} {C : Addr} : Mon (FvAt K C) := fun e v H H' x h => by
  cases e with
  | seq b es =>
    obtain ⟨a, xs, h1, h2, h3⟩ := h
    exact ⟨a, xs, h1, h2.mono x, Paired.mapP h3 fun _ _ q => elAt_mono _ _ _ _ x q⟩
  | dat d => exact ⟨PV.mono x h.1, h.2⟩
def isFld : El → Bool
  | .fld _ => true
  | .dat _ => false
def nmE : El → Str
  | .fld f => f.name
  | .dat _ => Str.empty
def nodS (ns : List Str) : Bool := decide (((dn ns ns.length : Nat) : Int) = ((ns.length : Nat) : Int))
def fAF : Fv → Nat → Bool
  | .seq _ es, m => decide (es.length ≤ m) && (es.all isFld && nodS (es.map nmE))
  | .dat _, _ => false
def spAF (K : PySem.W.Frag) (C : Addr) : Sp := fun vs H Q _ => ∃ (v : V) (fv : Fv) (m : Nat), vs = [v, .int (m : Int)] ∧ FvAt K C fv v H ∧ m ≤ 100 ∧ ∀ H', Ex H H' → Q (.bl (fAF fv m)) H'
theorem ev_af {K : PySem.W.Frag} {C : Addr} {H : Hp} {σ : L2.St} {tv tm : TE} {v : V} {fv : Fv} {m : Nat} {E : XK} (hv : Ev tv σ H v) (hm : Ev tm σ H (.int (m : Int))) (p : FvAt K C fv v H) (h : m ≤ 100) : Ev (tCall (spAF K C) [] E (tCons tv (tCons tm tNil))) σ H (.bl (fAF fv m)) :=
  ev_call (ea_cons hv (ea_cons hm ea_nil)) fun H1 x Q q E => ⟨v, fv, m, rfl, fvAt_mono _ _ _ _ x p, h, fun H2 e2 => q H2 e2⟩
theorem ev_lenSet {K : PySem.W.Frag} {H : Hp} {σ : L2.St} {ta : TE} {ns : List Str} (h : EvL ta σ H (ns.map V.str)) (hl : ns.length ≤ 4000) : Ev (tLenSetT K ta) σ H (.int ((dn ns ns.length : Nat) : Int)) := fun H1 e Q q =>
  h H1 e _ fun p H2 _ e2 h2 => ⟨p, ns, rfl, SqL.of h2, hl, q H2 e2⟩
section
variable {P : Program} {w : World} {K : PySem.W.Frag} {mg : Str → Option Value} {base : Heap}
theorem ev_isF (T : Txt P K mg) {e : El} {x : V} {H : Hp} {σ : L2.St} {te : TE} (h : Ev te σ H x) (p : ElAt K T.C_Field e x H) : Ev (tCB (rIsi K) (tCons te (tCons (tC (.ref T.C_Field)) tNil))) σ H (.bl (isFld e)) := by
  refine ev_cb (ea_cons h (ea_cons ev_c ea_nil)) fun H1 X1 Q q => ?_
  have p1 := elAt_mono _ _ _ _ X1 p
  cases e with
  | fld f =>
    obtain ⟨a, dx, fs, wt, rfl, h2, _⟩ := p1
    exact ⟨_, _, _, _, true, rfl, .own _, T.ic_Field.ty T.cl_Field h2, kit_self, q H1 (Ex.refl H1)⟩
  | dat d =>
    obtain ⟨l, m1, m2⟩ := noC_mro d
    exact ⟨_, _, _, _, false, rfl, .own _, PV.ty p1, kit_no T.ic_Field T.cl_Field m1 m2, q H1 (Ex.refl H1)⟩
theorem el_nm {es : List El} (h : es.all isFld = true) {e : El} (he : e ∈ es) : ∃ f, e = .fld f := by
  have := List.all_eq_true.mp h e he
  cases e with
  | fld f => exact ⟨f, rfl⟩
  | dat d => cases this
theorem ok_are_fields (T : Txt P K mg) : FnOk P w K mg base CX0 1 T.f_are_fields T.d_are_fields P_are_fields (spAF K T.C_Field) := by

  refine T.F_are_fields.ok sc_are_fields (fun vs H Q E h => ?_) (fun cdv A outer s H vs Q E hr h => ?_)
  · obtain ⟨v, fv, m, rfl, _⟩ := h
    rfl
  · obtain ⟨v, fv, m, rfl, hv, hm, kont⟩ := h
    refine ⟨_, (pss_cons (ps_if (PW.pt (pw_or (pt_not (pt_val (pe_callB call_isiT (by rfl) T.b_isinstance (by decide +kernel) (pa_cons (pv 0) (pa_cons (pe_tup (pa_cons (pe_bltn (v := .ty "list") (by rfl) T.b_list (by decide +kernel) rfl) (pa_cons (pe_bltn (v := .ty "tuple") (by rfl) T.b_tuple (by decide +kernel) rfl) pa_nil))) pa_nil))))) (pw_or1 (pt_cmpR op_gt (pe_callB call_len_seq (by rfl) T.b_len (by decide +kernel) (pa_cons (pv 0) pa_nil)) (pv 1) (nomark _))))) (pss_one (ps_ret pe_bl)) pss_nil)
      (pss_cons (ps_if (pt_not (pt_val (pe_callB (cr_all rfl) (by rfl) T.b_all (by decide +kernel) (pa_cons (pe_lc (own := [("one", 2)]) (g := gName 2) (by rfl) sc_are_fields.nd (Way.pi_sq (pv 0)) (blkOk_by (own := [("one", 2)]) (N := N_are_fields) (sc := defScope s_are_fields) (by decide +kernel)) (fun _ _ _ _ _ => (pg_name (i := 2) sc_are_fields.nd rfl (Or.inl rfl))) (fun _ _ _ _ _ => pts_nil) (fun _ _ _ _ _ => (pe_callB (Way.kk_isi (K := K)) (by rfl) T.b_isinstance (by decide +kernel) (pa_cons (pv 2) (pa_cons (pe_glob (v := .ref T.C_Field) (by rfl) T.g_Field rfl) pa_nil))))) pa_nil)))) (pss_one (ps_ret pe_bl)) pss_nil)
      (pss_one (ps_ret (pe_cmpR op_eq (Way.pe_lenSetT rfl (by rfl) T.b_len (by rfl) T.b_set (pe_lc (own := [("one", 2)]) (g := gName 2) (by rfl) sc_are_fields.nd (Way.pi_sq (pv 0)) (blkOk_by (own := [("one", 2)]) (N := N_are_fields) (sc := defScope s_are_fields) (by decide +kernel)) (fun _ _ _ _ _ => (pg_name (i := 2) sc_are_fields.nd rfl (Or.inl rfl))) (fun _ _ _ _ _ => pts_nil) (fun _ _ _ _ _ => (Way.kk_fld (K := K) (pv 2) rfl)))) (pe_callB call_len_seq (by rfl) T.b_len (by decide +kernel) (pa_cons (pv 0) pa_nil)) (nomark _)))))), ?_⟩
    cases fv with
    | dat d =>
      obtain ⟨pq, hs⟩ := hv
      refine q_when (b := true) (et_is (et_or (a := true) (b := true) (et_not (a := false) (et_B (ev_is (ev_isSq (ev_var rfl) pq) (by rw [hs])))) fun q => nomatch q) rfl) (fun _ H1 X1 => ?_) fun q => nomatch q
      exact s_ret (v := .bl false) ev_c fun H2 X2 => kont H2 (X1.trans X2)
    | seq b es =>
      obtain ⟨a, xs, rfl, hs, hp⟩ := hv
      have hlen : xs.length = es.length := Paired.length hp
      have elen : ∀ H1, Ex H H1 → Ev (tCB (rLenS K) (tCons (tVar 0) tNil)) [some (.ref a), some (.int (m : Int)), none] H1 (.int (es.length : Int)) := fun H1 X1 => ev_is (ev_cb (ea_cons (ev_var rfl) ea_nil) fun H2 X2 _ q => ⟨a, xs, rfl, (hs.mono (X1.trans X2)).sq, q H2 (Ex.refl H2)⟩) (by rw [hlen])
      have ety : ∃ t, (∀ H1, Ex H H1 → TyX K H1 (.ref a) t) ∧ PySem.W.kitAny K t [.type "list", .type "tuple"] = some true := by
        cases b with
        | true => exact ⟨_, fun H1 e => .base (.lst (e _ _ hs)), kd_sq (d := .list [])⟩
        | false => exact ⟨_, fun H1 e => ty_sqT (ex_t e hs), kd_sq (d := .tuple [])⟩
      obtain ⟨ty, t1, t2⟩ := ety
      refine q_when (b := decide ((m : Int) < (es.length : Int))) (et_is (et_or (et_not (et_B (ev_isLT (ev_var rfl) t1 t2))) fun _ => et_test (ev_op (elen H (Ex.refl H)) (ev_var rfl) rv_I0)) (by simp)) (fun q H1 X1 => ?_) (fun q H1 X1 => ?_)
      · refine s_ret (v := .bl (fAF (.seq b es) m)) (ev_is ev_c ?_) fun H2 X2 => kont H2 (X1.trans X2)
        have q' : ¬ es.length ≤ m := by have := of_decide_eq_true q; omega
        simp [fAF, q']
      · have q' : es.length ≤ m := by have := of_decide_eq_false q; omega
        have ekon : fAF (.seq b es) m = (es.all isFld && nodS (es.map nmE)) := by simp [fAF, q']
        rw [ekon] at kont
        refine q_when (b := !es.all isFld) (et_is (et_not (et_B (ev_all (bs := es.map isFld) ?_))) (by rw [List.all_map]; rfl)) (fun q1 H2 X2 => ?_) (fun q1 H2 X2 => ?_)
        · rw [List.map_map]
          exact el_mapQ (K := K) (P := ElAt K T.C_Field) (S := es) (w := fun e => .bl (isFld e)) (ev_var rfl) (hs.mono X1).sq (Paired.mapP hp fun _ _ h => elAt_mono _ _ _ _ X1 h) (by omega) (fun _ => rfl) fun x e H2 X2 he hx => ev_isF T (ev_var rfl) (elAt_mono _ _ _ _ X2 hx)
        · refine s_ret (v := .bl (es.all isFld && nodS (es.map nmE))) (ev_is ev_c ?_) fun H3 X3 => kont H3 ((X1.trans X2).trans X3)
          have : es.all isFld = false := by simpa using q1
          rw [this]; rfl
        · have q1' : es.all isFld = true := by simpa using q1
          rw [q1', Bool.true_and] at kont
          have X := X1.trans X2
          refine s_ret (v := .bl (nodS (es.map nmE))) (ev_is (ev_op (ev_lenSet (ns := es.map nmE) (by
            rw [List.map_map]
            refine el_mapQ (K := K) (P := ElAt K T.C_Field) (S := es) (w := fun e => .str (nmE e)) (ev_var rfl) (hs.mono X).sq (Paired.mapP hp fun _ _ h => elAt_mono _ _ _ _ X h) (by omega) (fun _ => rfl) fun x e H4 X4 he hx => ?_
            obtain ⟨f, rfl⟩ := el_nm q1' he
            obtain ⟨x', dx, fs, wt, rfl, h2, h3, _⟩ := (hx : FAt K T.C_Field f x H2)
            exact ev_fld (ev_var rfl) (X4 _ _ h2) T.cl_Field T.na_Field_name h3) (by rw [List.length_map]; omega)) (elen H2 X) (rv_eq rfl)) ?_) fun H3 X3 => kont H3 (X.trans X3)
          unfold nodS
          rw [List.length_map]
          simp
theorem ok_fits_flags (T : Txt P K mg) : FnOk P w K mg base CX0 1 T.f_fits_flags T.d_fits_flags P_fits_flags (spB3 K fun a b c => isBool a && (isBool b && isBool c)) := by
  refine T.F_fits_flags.ok sc_fits_flags (fun vs H Q E h => ?_) (fun cdv A outer s H vs Q E hr h => ?_)
  · obtain ⟨u, v, w, d, e, g, rfl, _⟩ := h
    rfl
  · obtain ⟨u, v, w, d, e, g, rfl, pu, pv', pw, kont⟩ := h
    refine ⟨_, (pss_one (ps_ret (pe_and (pe_callB call_isi (by rfl) T.b_isinstance (by decide +kernel) (pa_cons (pv 0) (pa_cons (pe_bltn (v := .ty "bool") (by rfl) T.b_bool (by decide +kernel) rfl) pa_nil))) (pe_and (pe_callB call_isi (by rfl) T.b_isinstance (by decide +kernel) (pa_cons (pv 1) (pa_cons (pe_bltn (v := .ty "bool") (by rfl) T.b_bool (by decide +kernel) rfl) pa_nil))) (pe_one (pe_callB call_isi (by rfl) T.b_isinstance (by decide +kernel) (pa_cons (pv 2) (pa_cons (pe_bltn (v := .ty "bool") (by rfl) T.b_bool (by decide +kernel) rfl) pa_nil)))))))), ?_⟩
    exact s_ret (ev_andV (ev_isd (ev_var rfl) pu kd_bool) fun _ => ev_andV (ev_isd (ev_var rfl) pv' kd_bool) fun _ => ev_isd (ev_var rfl) pw kd_bool) fun H1 X1 => kont H1 X1
end
end K01

namespace K01
open PySem L2 Way Evl
/-! kinds -/
structure Kd where
  name : Str
  fields : List Fd
  base : Option Str
  frozen : Bool
  heirs : Bool
  key : Option Str
  registered : Bool
deriving DecidableEq
def KAt (K : PySem.W.Frag) (CF CK : Addr) (kd : Kd) (v : V) (H : Hp) : Prop := ∃ a dx fs ft xs, v = .ref a ∧ H a = some (.ins CK dx fs) ∧ fs.lookup ("name" : Str) = some (.str kd.name) ∧ fs.lookup ("fields" : Str) = some (.ref ft) ∧ fs.lookup ("base" : Str) = some (oV kd.base) ∧ fs.lookup ("frozen" : Str) = some (.bl kd.frozen) ∧ fs.lookup ("heirs" : Str) = some (.bl kd.heirs) ∧ fs.lookup ("key" : Str) = some (oV kd.key) ∧ fs.lookup ("registered" : Str) = some (.bl kd.registered) ∧ SqT K H ft xs ∧ Paired (fun x f => FAt K CF f x H) xs kd.fields
theorem KAt.mono {K : PySem.W.Frag} {CF CK : Addr} {kd : Kd} {v : V} {H H' : Hp} (e : Ex H H') (h : KAt K CF CK kd v H) : KAt K CF CK kd v H' :=
  let ⟨a, dx, fs, ft, xs, h1, h2, h3, h4, h5, h6, h7, h8, h9, h10, h11⟩ := h
  ⟨a, dx, fs, ft, xs, h1, e _ _ h2, h3, h4, h5, h6, h7, h8, h9, ex_t e h10, Paired.mapP h11 fun _ _ q => q.mono e⟩
theorem KAt.keep {K : PySem.W.Frag} {CF CK : Addr} {kd : Kd} {v : V} {H H' : Hp} (e : KpI K H H') (h : KAt K CF CK kd v H) : KAt K CF CK kd v H' :=
  let ⟨a, dx, fs, ft, xs, h1, h2, h3, h4, h5, h6, h7, h8, h9, h10, h11⟩ := h
  ⟨a, dx, fs, ft, xs, h1, e.i _ _ _ _ h2, h3, h4, h5, h6, h7, h8, h9, e.t _ _ h10, Paired.mapP h11 fun _ _ q => q.keep e⟩
theorem FAt.kpx {K : PySem.W.Frag} {C C' x dx : Addr} {f : Fd} {v : V} {H H' : Hp} (hx : H x = some (.ins C' dx [])) (k : Kp x H H') (h : FAt K C f v H) : FAt K C f v H' := by
  obtain ⟨a, dy, fs, wt, h1, h2, h3, h4, h5, h6, h7, h8, h9⟩ := h
  refine ⟨a, dy, fs, wt, h1, k _ _ (fun z => ?_) h2, h3, h4, h5, h6, h7, (Kps.kp (off_ins hx) k).t _ _ h8, h9⟩
  rw [z, hx] at h2
  cases h2
  cases h3
theorem sqb_kp {K : PySem.W.Frag} {C x dx a : Addr} {b : Bool} {xs : List V} {H H' : Hp} (hx : H x = some (.ins C dx [])) (h : SqB K H b a xs) (k : Kp x H H') : Sq2 K H' a xs := by
  cases b with
  | true => exact .inl (SqL.of (k _ _ (fun z => by subst z; have h' : H a = some (.lst xs) := h; rw [hx] at h'; cases h') h))
  | false => exact .inr ((Kps.kp (off_ins hx) k).t _ _ h)
theorem kp_tup {K : PySem.W.Frag} {H : Hp} {a : Addr} {xs : List V} {x C dx : Addr} {fs gs : List (Str × V)} (h : SqT K H a xs) (hx : H x = some (.ins C dx fs)) : SqT K (upd H x (.ins C dx gs)) a xs := (Kps.kp (K := K) (off_ins hx) (Kp.set (Kp.refl _ _))).t _ _ h
def bv : PyData → Bool
  | .bool b => b
  | _ => false
def strOf : PyData → Str
  | .str x => x
  | _ => Str.empty
def kc1 (dn : PyData) (fv : Fv) : Bool := !fKN dn || !fAF fv 10
def kc2 (dn db : PyData) : Bool := !Way.isNon db && (!fKN db || decide (strOf db = strOf dn))
def kc3 (dz dh dk dr : PyData) : Bool := !(isBool dz && (isBool dh && isBool dr)) || (!Way.isNon dk && !fFN dk)
def kc4 (db dz dh dk : PyData) : Bool := (!Way.isNon db && (bv dz || bv dh)) || (bv dh && (bv dz || !Way.isNon dk))
def kc5 (dk dr : PyData) : Bool := bv dr && Way.isNon dk
def fKR (dn : PyData) (fv : Fv) (db dz dh dk dr : PyData) : Bool := !kc1 dn fv && (!kc2 dn db && (!kc3 dz dh dk dr && (!kc4 db dz dh dk && !kc5 dk dr)))
structure KdD (kd : Kd) (dn : PyData) (fv : Fv) (db dz dh dk dr : PyData) : Prop where
  n : dn = .str kd.name
  f : ∃ b, fv = .seq b (kd.fields.map .fld)
  b : db = oD kd.base
  z : dz = .bool kd.frozen
  h : dh = .bool kd.heirs
  k : dk = oD kd.key
  r : dr = .bool kd.registered
theorem flds_of : ∀ {es : List El}, es.all isFld = true → ∃ fs : List Fd, es = fs.map .fld
  | [], _ => ⟨[], rfl⟩
  | e :: es, h => by
    rw [List.all_cons, Bool.and_eq_true] at h
    obtain ⟨fs, rfl⟩ := flds_of h.2
    cases e with
    | fld f => exact ⟨f :: fs, rfl⟩
    | dat d => cases h.1
theorem opt_of {d : PyData} {f : PyData → Bool} (hf : ∀ d, f d = true → ∃ x, d = .str x) (h : (!Way.isNon d && !f d) = false) : ∃ o, d = oD o := by
  cases hn : Way.isNon d with
  | true => exact ⟨none, by cases d <;> simp [Way.isNon] at hn ⊢; rfl⟩
  | false =>
    have : f d = true := by simpa [hn] using h
    obtain ⟨x, rfl⟩ := hf d this
    exact ⟨some x, rfl⟩
theorem fKN_str {d : PyData} (h : fKN d = true) : ∃ x, d = .str x := by
  cases d <;> simp [fKN] at h ⊢
theorem isBool_of {d : PyData} (h : isBool d = true) : ∃ b, d = .bool b := by
  cases d <;> simp [isBool] at h ⊢
theorem right_kd {dn : PyData} {fv : Fv} {db dz dh dk dr : PyData} (h : fKR dn fv db dz dh dk dr = true) : ∃ kd, KdD kd dn fv db dz dh dk dr := by
  simp only [fKR, Bool.and_eq_true, Bool.not_eq_true'] at h
  obtain ⟨h1, h2, h3, h4, h5⟩ := h
  simp only [kc1, Bool.or_eq_false_iff, Bool.not_eq_false'] at h1
  obtain ⟨n, rfl⟩ := fKN_str h1.1
  simp only [kc3, Bool.or_eq_false_iff, Bool.not_eq_false', Bool.and_eq_true] at h3
  obtain ⟨⟨z1, z2, z3⟩, z4⟩ := h3
  obtain ⟨z, rfl⟩ := isBool_of z1
  obtain ⟨hh, rfl⟩ := isBool_of z2
  obtain ⟨r, rfl⟩ := isBool_of z3
  obtain ⟨k, rfl⟩ := opt_of (fun _ => fFN_str) z4
  obtain ⟨b, rfl⟩ : ∃ o, db = oD o := by
    refine opt_of (f := fKN) (fun _ => fKN_str) ?_
    simp only [kc2] at h2
    cases hn : Way.isNon db <;> simp_all
  cases fv with
  | dat d => simp [fAF] at h1
  | seq bb es =>
    have h6 : es.all isFld = true := by
      have := h1.2
      simp only [fAF, Bool.and_eq_true] at this
      exact this.2.1
    obtain ⟨fs, rfl⟩ := flds_of h6
    exact ⟨⟨n, fs, b, z, hh, k, r⟩, rfl, ⟨bb, rfl⟩, rfl, rfl, rfl, rfl, rfl⟩
def spKnd (K : PySem.W.Frag) (CF CK CB : Addr) : Sp := fun vs H Q E => ∃ x dx n f b z h k r dn fv db dz dh dk dr, vs = [.ref x, n, f, b, z, h, k, r] ∧ H x = some (.ins CK dx []) ∧ PV K H n dn ∧ FvAt K CF fv f H ∧ PV K H b db ∧ PV K H z dz ∧ PV K H h dh ∧ PV K H k dk ∧ PV K H r dr ∧
  (∀ kd, KdD kd dn fv db dz dh dk dr → fKR dn fv db dz dh dk dr = true → ∀ H', Kp x H H' → KAt K CF CK kd (.ref x) H' → Q .non H') ∧ (fKR dn fv db dz dh dk dr = false → ∀ d H', Ex H H' → H' d = some (.xd [("name", n)]) → E (.ref CB) (some d) H')
theorem pr_fld {K : PySem.W.Frag} {C : Addr} {H : Hp} : ∀ {xs : List V} {fs : List Fd}, Paired (fun x e => ElAt K C e x H) xs (fs.map .fld) → Paired (fun x f => FAt K C f x H) xs fs
  | [], [], .nil => .nil
  | _ :: _, _ :: _, .cons a r => .cons a (pr_fld r)
section
variable {P : Program} {w : World} {K : PySem.W.Frag} {mg : Str → Option Value} {base : Heap}
theorem ev_cval' {H : Hp} {σ : L2.St} {C : Addr} {f : Str} {v : V} {u : Value} {te : TE} (h : Ev te σ H (.ref C)) (r : ClX.CRead K C (.type "type")) (c : ClX.CVal K C (.type "type") f v u) : Ev (ClX.tCVal K te f) σ H v := fun H1 e Q q => h H1 e _ fun H2 e2 => ⟨C, _, v, u, rfl, r, c, q H2 e2⟩
theorem ok_Kind_init (T : Txt P K mg) : FnOk P w K mg base (L2N.CX P w) 3 T.f_Kind_init T.d_Kind_init P_Kind_init (spKnd K T.C_Field T.C_Kind T.C_BadKind) := by
  have G_is_kind_name := ok_is_kind_name (P := P) (w := w) (base := base) T
  have G_are_fields := ok_are_fields (P := P) (w := w) (base := base) T
  have G_fits_flags := ok_fits_flags (P := P) (w := w) (base := base) T
  have G_is_field_name := ok_is_field_name (P := P) (w := w) (base := base) T
  have G_BadKind_init := ok_BadKind_init (P := P) (w := w) (base := base) T
  refine T.F_Kind_init.ok sc_Kind_init (fun vs H Q E h => ?_) (fun cdv A outer s H vs Q E hr h => ?_)
  · obtain ⟨x, dx, n, f, b, z, h, k, r, dn, fv, db, dz, dh, dk, dr, rfl, _⟩ := h
    rfl
  · obtain ⟨x, dx, n, f, b, z, h, k, r, dn, fv, db, dz, dh, dk, dr, rfl, hx, pn, pf, pb, pz, ph, pk', pr, kq, ke⟩ := h
    refine ⟨_, (pss_cons (ps_if (PW.pt (pw_or (pt_not (pt_val (pe_call G_is_kind_name hr (by rfl) T.g_is_kind_name T.F_is_kind_name.kp T.B_is_kind_name .nil pass0 (pa_cons (pv 1) pa_nil)))) (pw_or1 (pt_not (pt_val (pe_call G_are_fields (hr.mono (by decide)) (by rfl) T.g_are_fields T.F_are_fields.kp T.B_are_fields .nil pass0 (pa_cons (pv 2) (pa_cons (ClX.pe_cval (pe_glob (v := .ref T.C_House) (by rfl) T.g_House rfl)) pa_nil)))))))) (pss_one (L2N.ps_raise rfl (L2N.takes_of rfl rfl rfl rfl) (Way.pmkN_oex T.X_BadKind.oex T.i_BadKind T.t_BadKind G_BadKind_init (hr.mono (by decide)) T.B_BadKind_init .nil pass0 (by rfl) T.g_BadKind (pa_cons (pv 1) pa_nil)))) pss_nil)
      (pss_cons (ps_if (PW.pt (pw_and (pt_cmpR op_notN (pv 3) pe_non (nomark _)) (pw_and1 (PW.pt (pw_or (pt_not (pt_val (pe_call G_is_kind_name hr (by rfl) T.g_is_kind_name T.F_is_kind_name.kp T.B_is_kind_name .nil pass0 (pa_cons (pv 3) pa_nil)))) (pw_or1 (pt_cmpR op_eq (pv 3) (pv 1) (nomark _)))))))) (pss_one (L2N.ps_raise rfl (L2N.takes_of rfl rfl rfl rfl) (Way.pmkN_oex T.X_BadKind.oex T.i_BadKind T.t_BadKind G_BadKind_init (hr.mono (by decide)) T.B_BadKind_init .nil pass0 (by rfl) T.g_BadKind (pa_cons (pv 1) pa_nil)))) pss_nil)
      (pss_cons (ps_if (PW.pt (pw_or (pt_not (pt_val (pe_call G_fits_flags (hr.mono (by decide)) (by rfl) T.g_fits_flags T.F_fits_flags.kp T.B_fits_flags .nil pass0 (pa_cons (pv 4) (pa_cons (pv 5) (pa_cons (pv 7) pa_nil)))))) (pw_or1 (PW.pt (pw_and (pt_cmpR op_notN (pv 6) pe_non (nomark _)) (pw_and1 (pt_not (pt_val (pe_call G_is_field_name hr (by rfl) T.g_is_field_name T.F_is_field_name.kp T.B_is_field_name .nil pass0 (pa_cons (pv 6) pa_nil)))))))))) (pss_one (L2N.ps_raise rfl (L2N.takes_of rfl rfl rfl rfl) (Way.pmkN_oex T.X_BadKind.oex T.i_BadKind T.t_BadKind G_BadKind_init (hr.mono (by decide)) T.B_BadKind_init .nil pass0 (by rfl) T.g_BadKind (pa_cons (pv 1) pa_nil)))) pss_nil)
      (pss_cons (ps_if (PW.pt (pw_or (PW.pt (pw_and (pt_cmpR op_notN (pv 3) pe_non (nomark _)) (pw_and1 (PW.pt (pw_or (pt_val (pv 4)) (pw_or1 (pt_val (pv 5)))))))) (pw_or1 (PW.pt (pw_and (pt_val (pv 5)) (pw_and1 (PW.pt (pw_or (pt_val (pv 4)) (pw_or1 (pt_cmpR op_notN (pv 6) pe_non (nomark _))))))))))) (pss_one (L2N.ps_raise rfl (L2N.takes_of rfl rfl rfl rfl) (Way.pmkN_oex T.X_BadKind.oex T.i_BadKind T.t_BadKind G_BadKind_init (hr.mono (by decide)) T.B_BadKind_init .nil pass0 (by rfl) T.g_BadKind (pa_cons (pv 1) pa_nil)))) pss_nil)
      (pss_cons (ps_if (PW.pt (pw_and (pt_val (pv 7)) (pw_and1 (pt_cmpR op_isN (pv 6) pe_non (nomark _))))) (pss_one (L2N.ps_raise rfl (L2N.takes_of rfl rfl rfl rfl) (Way.pmkN_oex T.X_BadKind.oex T.i_BadKind T.t_BadKind G_BadKind_init (hr.mono (by decide)) T.B_BadKind_init .nil pass0 (by rfl) T.g_BadKind (pa_cons (pv 1) pa_nil)))) pss_nil)
      (pss_cons (ps_fld (pv 0) (pv 1) rfl)
      (pss_cons (ps_fld (pv 0) (pe_callTy call_tuple_of (by rfl) T.b_tuple (by decide +kernel) (pa_cons (pv 2) pa_nil)) rfl)
      (pss_cons (ps_fld (pv 0) (pv 3) rfl)
      (pss_cons (ps_fld (pv 0) (pv 4) rfl)
      (pss_cons (ps_fld (pv 0) (pv 5) rfl)
      (pss_cons (ps_fld (pv 0) (pv 6) rfl)
      (pss_one (ps_fld (pv 0) (pv 7) rfl))))))))))))), ?_⟩
    have bad : ∀ H1, Ex H H1 → fKR dn fv db dz dh dk dr = false → tMkO T.C_BadKind (spX1 T.C_BadKind "name") [] (tCons (tVar 1) tNil) [some (.ref x), some n, some f, some b, some z, some h, some k, some r] H1 fun cls d H' => E cls d H' := fun H1 X1 hf =>
      mko1 (ea_cons (ev_var rfl) ea_nil) fun d H2 X2 hd => ke hf d H2 (X1.trans X2) hd
    refine q_when (b := kc1 dn fv) (et_or (et_not (et_B (ev_b1 (ev_var rfl) pn))) fun _ => et_not (et_B (ev_af (ev_var rfl) (ev_cval' ev_c T.cr_House T.cv_House_FIELDS) pf (by decide)))) (fun q H1 X1 => ?_) (fun q1 H1 X1 => ?_)
    · exact bad H1 X1 (by simp [fKR, q])
    obtain ⟨nm, rfl⟩ : ∃ y, dn = .str y := by
      simp only [kc1, Bool.or_eq_false_iff, Bool.not_eq_false'] at q1
      exact fKN_str q1.1
    obtain ⟨rfl, _⟩ := pv_str pn
    refine q_when (b := kc2 (.str nm) db) (et_and (et_test (ev_is (ev_op (ev_var rfl) ev_c rv_notN) (by rw [pv_isNon pb]))) fun _ => et_or (et_not (et_B (ev_b1 (ev_var rfl) (pb.mono X1)))) fun qk => ?_) (fun q H2 X2 => ?_) (fun q2 H2 X2 => ?_)
    · have qk' : fKN db = true := by simpa using qk
      obtain ⟨y, rfl⟩ := fKN_str qk'
      obtain ⟨rfl, _⟩ := pv_str pb
      exact et_is (et_test (ev_op (ev_var rfl) (ev_var rfl) (rv_eq rfl))) (decide_eq_decide.mpr ⟨fun h => V.str.inj h, fun h => congrArg V.str h⟩)
    · exact bad H2 (X1.trans X2) (by simp [fKR, q])
    have X12 := X1.trans X2
    refine q_when (b := kc3 dz dh dk dr) (et_or (et_not (et_B (ev_b3 (ev_var rfl) (ev_var rfl) (ev_var rfl) (pz.mono X12) (ph.mono X12) (pr.mono X12)))) fun _ => et_and (et_test (ev_is (ev_op (ev_var rfl) ev_c rv_notN) (by rw [pv_isNon pk']))) fun _ => et_not (et_B (ev_b1 (ev_var rfl) (pk'.mono X12)))) (fun q H3 X3 => ?_) (fun q3 H3 X3 => ?_)
    · exact bad H3 (X12.trans X3) (by simp [fKR, q])
    have X13 := X12.trans X3
    have q3' := q3
    simp only [kc3, Bool.or_eq_false_iff, Bool.not_eq_false', Bool.and_eq_true] at q3'
    obtain ⟨⟨z1, z2, z3⟩, z4⟩ := q3'
    obtain ⟨bz, rfl⟩ := isBool_of z1
    obtain ⟨bh, rfl⟩ := isBool_of z2
    obtain ⟨br, rfl⟩ := isBool_of z3
    obtain rfl := pv_bool pz
    obtain rfl := pv_bool ph
    obtain rfl := pv_bool pr
    refine q_when (b := kc4 db (.bool bz) (.bool bh) dk) (et_or (et_and (et_test (ev_is (ev_op (ev_var rfl) ev_c rv_notN) (by rw [pv_isNon pb]))) fun _ => et_or (et_B (ev_var rfl)) fun _ => et_B (ev_var rfl)) fun _ => et_and (et_B (ev_var rfl)) fun _ => et_or (et_B (ev_var rfl)) fun _ => et_test (ev_is (ev_op (ev_var rfl) ev_c rv_notN) (by rw [pv_isNon pk']))) (fun q H4 X4 => ?_) (fun q4 H4 X4 => ?_)
    · exact bad H4 (X13.trans X4) (by simp [fKR, q])
    have X14 := X13.trans X4
    refine q_when (b := kc5 dk (.bool br)) (et_and (et_B (ev_var rfl)) fun _ => et_test (ev_is (ev_op (ev_var rfl) ev_c rv_isN) (by rw [pv_isNon pk']))) (fun q H5 X5 => ?_) (fun q5 H5 X5 => ?_)
    · exact bad H5 (X14.trans X5) (by simp [fKR, q])
    · have X1' := X1
      have X1 : Ex H H5 := X14.trans X5
      have hr' : fKR (.str nm) fv db (.bool bz) (.bool bh) dk (.bool br) = true := by simp [fKR, q1, q2, q3, q4, q5]
      obtain ⟨kd, hk⟩ := right_kd hr'
      have ef := hk
      obtain ⟨e1, ⟨bb, e2⟩, e3, e4, e5, e6, e7⟩ := hk
      subst e2 e3 e6
      cases e1
      cases e4
      cases e5
      cases e7
      obtain rfl := pv_o pb
      obtain rfl := pv_o pk'
      obtain ⟨fa, xs, rfl, hs, hp⟩ := pf
      have hp2 := pr_fld hp
      have hx1 := X1 _ _ hx
      refine q_setF (ev_var rfl) (ev_var rfl) hx1 T.cl_Kind T.na_Kind_name (by decide) fun H2 X2 => ?_
      have K2 := kp_ins (x := x) (C := T.C_Kind) (dx := dx) (fs := putF "name" (.str kd.name) []) (Kp.of X1) X2
      have sq2 := sqb_kp hx hs K2
      refine q_setFX (P := fun y H' => ∃ wt, y = .ref wt ∧ SqT K H' wt xs) (ex_tupOf (ev_var rfl) sq2) (fun H6 X6 => ev_var rfl) upd_same T.cl_Kind T.na_Kind_fields (Nat.lt_of_le_of_lt (len_put (n := 0) (Nat.le_refl _)) (by decide)) (fun y H6 H7 e ⟨wt, h1, h2⟩ => ⟨wt, h1, ex_t e h2⟩) fun y H3 X3 ⟨ft, ey, hft⟩ => ?_
      subst ey
      have K3 := kp_ins (C := T.C_Kind) (dx := dx) (fs := putF "fields" (.ref ft) (putF "name" (.str kd.name) [])) K2 X3
      have t3 := kp_tup (gs := putF "fields" (.ref ft) (putF "name" (.str kd.name) [])) hft (X3 _ _ upd_same)
      refine q_setF (ev_var rfl) (ev_var rfl) upd_same T.cl_Kind T.na_Kind_base (Nat.lt_of_le_of_lt (len_put (n := 1) (len_put (n := 0) (Nat.le_refl _))) (by decide)) fun H4 X4 => ?_
      have K4 := kp_ins (C := T.C_Kind) (dx := dx) (fs := putF "base" (oV kd.base) (putF "fields" (.ref ft) (putF "name" (.str kd.name) []))) K3 X4
      have t4 := kp_tup (gs := putF "base" (oV kd.base) (putF "fields" (.ref ft) (putF "name" (.str kd.name) []))) (ex_t X4 t3) (X4 _ _ upd_same)
      refine q_setF (ev_var rfl) (ev_var rfl) upd_same T.cl_Kind T.na_Kind_frozen (Nat.lt_of_le_of_lt (len_put (n := 2) (len_put (n := 1) (len_put (n := 0) (Nat.le_refl _)))) (by decide)) fun H5 X5 => ?_
      have K5 := kp_ins (C := T.C_Kind) (dx := dx) (fs := putF "frozen" (.bl kd.frozen) (putF "base" (oV kd.base) (putF "fields" (.ref ft) (putF "name" (.str kd.name) [])))) K4 X5
      have t5 := kp_tup (gs := putF "frozen" (.bl kd.frozen) (putF "base" (oV kd.base) (putF "fields" (.ref ft) (putF "name" (.str kd.name) [])))) (ex_t X5 t4) (X5 _ _ upd_same)
      refine q_setF (ev_var rfl) (ev_var rfl) upd_same T.cl_Kind T.na_Kind_heirs (Nat.lt_of_le_of_lt (len_put (n := 3) (len_put (n := 2) (len_put (n := 1) (len_put (n := 0) (Nat.le_refl _))))) (by decide)) fun H6 X6 => ?_
      have K6 := kp_ins (C := T.C_Kind) (dx := dx) (fs := putF "heirs" (.bl kd.heirs) (putF "frozen" (.bl kd.frozen) (putF "base" (oV kd.base) (putF "fields" (.ref ft) (putF "name" (.str kd.name) []))))) K5 X6
      have t6 := kp_tup (gs := putF "heirs" (.bl kd.heirs) (putF "frozen" (.bl kd.frozen) (putF "base" (oV kd.base) (putF "fields" (.ref ft) (putF "name" (.str kd.name) []))))) (ex_t X6 t5) (X6 _ _ upd_same)
      refine q_setF (ev_var rfl) (ev_var rfl) upd_same T.cl_Kind T.na_Kind_key (Nat.lt_of_le_of_lt (len_put (n := 4) (len_put (n := 3) (len_put (n := 2) (len_put (n := 1) (len_put (n := 0) (Nat.le_refl _)))))) (by decide)) fun H7 X7 => ?_
      have K7 := kp_ins (C := T.C_Kind) (dx := dx) (fs := putF "key" (oV kd.key) (putF "heirs" (.bl kd.heirs) (putF "frozen" (.bl kd.frozen) (putF "base" (oV kd.base) (putF "fields" (.ref ft) (putF "name" (.str kd.name) [])))))) K6 X7
      have t7 := kp_tup (gs := putF "key" (oV kd.key) (putF "heirs" (.bl kd.heirs) (putF "frozen" (.bl kd.frozen) (putF "base" (oV kd.base) (putF "fields" (.ref ft) (putF "name" (.str kd.name) [])))))) (ex_t X7 t6) (X7 _ _ upd_same)
      refine s_setF (ev_var rfl) (ev_var rfl) upd_same T.cl_Kind T.na_Kind_registered (Nat.lt_of_le_of_lt (len_put (n := 5) (len_put (n := 4) (len_put (n := 3) (len_put (n := 2) (len_put (n := 1) (len_put (n := 0) (Nat.le_refl _))))))) (by decide)) fun H8 X8 => ?_
      have K8 := kp_ins (C := T.C_Kind) (dx := dx) (fs := putF "registered" (.bl kd.registered) (putF "key" (oV kd.key) (putF "heirs" (.bl kd.heirs) (putF "frozen" (.bl kd.frozen) (putF "base" (oV kd.base) (putF "fields" (.ref ft) (putF "name" (.str kd.name) []))))))) K7 X8
      have t8 := kp_tup (gs := putF "registered" (.bl kd.registered) (putF "key" (oV kd.key) (putF "heirs" (.bl kd.heirs) (putF "frozen" (.bl kd.frozen) (putF "base" (oV kd.base) (putF "fields" (.ref ft) (putF "name" (.str kd.name) []))))))) (ex_t X8 t7) (X8 _ _ upd_same)
      refine kq kd ef hr' _ K8 ⟨x, dx, _, ft, xs, rfl, upd_same, ?_, ?_, ?_, ?_, ?_, ?_, lk_same, t8, Paired.mapP hp2 fun v f h => FAt.kpx hx K8 h⟩
      · rw [lk_ne (by decide +kernel), lk_ne (by decide +kernel), lk_ne (by decide +kernel), lk_ne (by decide +kernel), lk_ne (by decide +kernel), lk_ne (by decide +kernel), lk_same]
      · rw [lk_ne (by decide +kernel), lk_ne (by decide +kernel), lk_ne (by decide +kernel), lk_ne (by decide +kernel), lk_ne (by decide +kernel), lk_same]
      · rw [lk_ne (by decide +kernel), lk_ne (by decide +kernel), lk_ne (by decide +kernel), lk_ne (by decide +kernel), lk_same]
      · rw [lk_ne (by decide +kernel), lk_ne (by decide +kernel), lk_ne (by decide +kernel), lk_same]
      · rw [lk_ne (by decide +kernel), lk_ne (by decide +kernel), lk_same]
      · rw [lk_ne (by decide +kernel), lk_same]
end
end K01

namespace K01
open PySem L2 Way Evl
/-! == of tuples of fields, of kinds -/
def DF (K : PySem.W.Frag) (C : Addr) : EqvB := fun x y H b => ∃ f g, FAt K C f x H ∧ FAt K C g y H ∧ b = decide (f = g) ∧ (x = y → f = g)
theorem monDF {K : PySem.W.Frag} {C : Addr} : MonB (DF K C) := fun x y H H' b e ⟨f, g, h1, h2, h3⟩ => ⟨f, g, h1.mono e, h2.mono e, h3⟩
theorem dfRef {K : PySem.W.Frag} {C : Addr} : ∀ x y H b, DF K C x y H b → ∃ a c, x = .ref a ∧ y = .ref c ∧ (a = c → b = true) := fun x y H b ⟨f, g, h1, h2, hb, hc⟩ => by
  obtain ⟨a, dx, fs, wt, rfl, _⟩ := h1
  obtain ⟨c, dy, gs, wu, rfl, _⟩ := h2
  refine ⟨a, c, rfl, rfl, fun e => ?_⟩
  subst e
  rw [hb, decide_eq_true (hc rfl)]
section
variable {X : Cx} {P : Program} {K : PySem.W.Frag} {mg : Str → Option Value}
theorem dfOwn (T : Txt P K mg) : ∀ x y H b, DF K T.C_Field x y H b → DOwn K T.C_Field (RF K T.C_Field) x y H b := fun x y H b ⟨f, g, h1, h2, hb, _⟩ => by
  obtain ⟨a, dx, fs, wt, rfl, ha, _⟩ := id h1
  obtain ⟨c, dy, gs, wu, rfl, hc, _⟩ := id h2
  exact ⟨a, dx, _, .ref T.C_Field, rfl, ha, T.ic_Field.ty T.cl_Field hc, notFirst_self, f, h1, .inl ⟨g, h2, hb⟩⟩
theorem eqF (T : Txt P K mg) (G : FnOk X.prog X.w X.K X.mg X.base CX0 1 T.f_Field_eq T.d_Field_eq P_Field_eq (spEqB (RF K T.C_Field))) (h : X.K = K := by rfl) : EqB X 1 (DF K T.C_Field) := by
  subst h
  exact RcB.eqB (RcB.imp (rcB_own (E := fun _ _ _ => False) G T.m_Field_eq.at_ T.m_Field_eq.fn T.B_Field_eq pass0) (dfOwn T)) dfRef
theorem kk_eqFs (T : Txt P K mg) (G : FnOk X.prog X.w X.K X.mg X.base CX0 1 T.f_Field_eq T.d_Field_eq P_Field_eq (spEqB (RF K T.C_Field))) (hr : Room 2 X.A) (h : X.K = K := by rfl) : OpR X (compareOp .Eq) (rEqB (DTupB K (DF K T.C_Field))) := by
  subst h
  exact op_eqB (rcB_tup monDF (eqF T G rfl)) hr
theorem kk_eqF (T : Txt P K mg) (G : FnOk X.prog X.w X.K X.mg X.base CX0 1 T.f_Field_eq T.d_Field_eq P_Field_eq (spEqB (RF K T.C_Field))) (hr : Room 1 X.A) (h : X.K = K := by rfl) : OpR X (compareOp .Eq) (rEqB (DOwn K T.C_Field (RF K T.C_Field))) := by
  subst h
  exact op_eqB (rcB_own (E := fun _ _ _ => False) G T.m_Field_eq.at_ T.m_Field_eq.fn T.B_Field_eq pass0) hr
theorem kk_neF (T : Txt P K mg) (G : FnOk X.prog X.w X.K X.mg X.base CX0 1 T.f_Field_eq T.d_Field_eq P_Field_eq (spEqB (RF K T.C_Field))) (hr : Room 2 X.A) (h : X.K = K := by rfl) : OpR X (compareOp .NotEq) (rNeB (DOwn K T.C_Field (RF K T.C_Field))) := by
  subst h
  exact op_neB (E := fun _ _ _ => False) G T.ic_Field.mo T.m_Field_eq.at_ T.ic_Field.ne T.m_Field_eq.fn T.B_Field_eq pass0 hr
end
/-- == of a kind -/
def RK (K : PySem.W.Frag) (CF CK : Addr) : Addr → V → Hp → Bool → Prop := fun a y H b => ∃ kd, KAt K CF CK kd (.ref a) H ∧ ((∃ kd', KAt K CF CK kd' y H ∧ (∀ (i : Nat) f g, kd.fields[i]? = some f → kd'.fields[i]? = some g → f = g) ∧ b = decide (kd = kd')) ∨ ((∀ H', Ex H H' → NoC K y H') ∧ b = false))
theorem kd_eq (k l : Kd) : decide (k = l) = (decide (k.name = l.name) && (decide (k.fields = l.fields) && (decide (k.base = l.base) && (decide (k.frozen = l.frozen) && (decide (k.heirs = l.heirs) && (decide (k.key = l.key) && decide (k.registered = l.registered))))))) := by
  cases k; cases l
  simp only [Kd.mk.injEq, Bool.decide_and]
theorem like_len {α : Type} [DecidableEq α] {l m : List α} (h : ∀ (i : Nat) f g, l[i]? = some f → m[i]? = some g → f = g) : decide (l = m) = (l.length == m.length) := by
  by_cases e : l.length = m.length
  · have : l = m := List.ext_getElem e fun i h1 h2 => h i _ _ (List.getElem?_eq_getElem h1) (List.getElem?_eq_getElem h2)
    rw [decide_eq_true this, e]; simp
  · rw [decide_eq_false fun z => e (by rw [z])]
    exact (beq_eq_false_iff_ne.mpr e).symm
section
variable {P : Program} {w : World} {K : PySem.W.Frag} {mg : Str → Option Value} {base : Heap}
theorem ok_Kind_eq (T : Txt P K mg) : FnOk P w K mg base CX0 3 T.f_Kind_eq T.d_Kind_eq P_Kind_eq (spEqB (RK K T.C_Field T.C_Kind)) := by
  have G_Field_eq := ok_Field_eq (P := P) (w := w) (base := base) T
  refine T.F_Kind_eq.ok sc_Kind_eq (fun vs H Q E h => ?_) (fun cdv A outer s H vs Q E hr h => ?_)
  · obtain ⟨a, y, b, rfl, _⟩ := h
    rfl
  · obtain ⟨a, y, b, rfl, ⟨kd, hk, hy⟩, kont⟩ := h
    refine ⟨_, (pss_one (ps_ret (pe_and (pe_callB call_isi (by rfl) T.b_isinstance (by decide +kernel) (pa_cons (pv 1) (pa_cons (pe_glob (v := .ref T.C_Kind) (by rfl) T.g_Kind rfl) pa_nil))) (pe_and (pe_cmpR op_eq (pe_fld (pv 0) rfl) (pe_fld (pv 1) rfl) (nomark _)) (pe_and (pe_cmpR (kk_eqFs T G_Field_eq (hr.mono (by decide))) (pe_fld (pv 0) rfl) (pe_fld (pv 1) rfl) (nomark _)) (pe_and (pe_cmpR op_eq (pe_fld (pv 0) rfl) (pe_fld (pv 1) rfl) (nomark _)) (pe_and (pe_cmpR op_eq (pe_fld (pv 0) rfl) (pe_fld (pv 1) rfl) (nomark _)) (pe_and (pe_cmpR op_eq (pe_fld (pv 0) rfl) (pe_fld (pv 1) rfl) (nomark _)) (pe_and (pe_cmpR op_eq (pe_fld (pv 0) rfl) (pe_fld (pv 1) rfl) (nomark _)) (pe_one (pe_cmpR op_eq (pe_fld (pv 0) rfl) (pe_fld (pv 1) rfl) (nomark _)))))))))))), ?_⟩
    obtain ⟨a', dx, fs, ft, xs, e1, h1, h2, h3, h4, h5, h6, h7, h8, h9, h10⟩ := hk
    cases e1
    rcases hy with ⟨kd', hg, hl, rfl⟩ | ⟨hy, rfl⟩
    · obtain ⟨c, dy, gs, gt, ys, rfl, g1, g2, g3, g4, g5, g6, g7, g8, g9, g10⟩ := hg
      refine s_ret (ev_is (ev_andV (ev_cb (ea_cons (ev_var rfl) (ea_cons ev_c ea_nil)) (rc_isi (.own _) (fun H1 X1 => T.ic_Kind.ty T.cl_Kind (X1 _ _ g1)) kit_self)) fun _ => ev_andV (ev_op (ev_fld (ev_var rfl) h1 T.cl_Kind T.na_Kind_name h2) (ev_fld (ev_var rfl) g1 T.cl_Kind T.na_Kind_name g2) (rv_eq rfl)) fun _ =>
        ev_andV (a := kd.fields.length == kd'.fields.length) (ev_op (ev_fld (ev_var rfl) h1 T.cl_Kind T.na_Kind_fields h3) (ev_fld (ev_var rfl) g1 T.cl_Kind T.na_Kind_fields g3) (fun H1 X1 Q' q' => ?_)) fun _ => ev_andV (ev_op (ev_fld (ev_var rfl) h1 T.cl_Kind T.na_Kind_base h4) (ev_fld (ev_var rfl) g1 T.cl_Kind T.na_Kind_base g4) (rv_eq (scal_o _ _))) fun _ =>
        ev_andV (ev_op (ev_fld (ev_var rfl) h1 T.cl_Kind T.na_Kind_frozen h5) (ev_fld (ev_var rfl) g1 T.cl_Kind T.na_Kind_frozen g5) (rv_eq rfl)) fun _ => ev_andV (ev_op (ev_fld (ev_var rfl) h1 T.cl_Kind T.na_Kind_heirs h6) (ev_fld (ev_var rfl) g1 T.cl_Kind T.na_Kind_heirs g6) (rv_eq rfl)) fun _ =>
        ev_andV (ev_op (ev_fld (ev_var rfl) h1 T.cl_Kind T.na_Kind_key h7) (ev_fld (ev_var rfl) g1 T.cl_Kind T.na_Kind_key g7) (rv_eq (scal_o _ _))) fun _ => ev_op (ev_fld (ev_var rfl) h1 T.cl_Kind T.na_Kind_registered h8) (ev_fld (ev_var rfl) g1 T.cl_Kind T.na_Kind_registered g8) (rv_eq rfl)) ?_) fun H1 X1 => kont H1 X1
      · have l1 : xs.length = kd.fields.length := Paired.length h10
        have l2 : ys.length = kd'.fields.length := Paired.length g10
        refine ⟨_, ⟨ft, gt, xs, ys, fun _ => true, rfl, rfl, ex_t X1 h9, ex_t X1 g9, fun i x y hx hy => ?_, rfl⟩, fun H2 X2 => ?_⟩
        · obtain ⟨f, hf, pf⟩ := pr_at h10 hx
          obtain ⟨g, hg, pg⟩ := pr_at g10 hy
          have := hl i f g hf hg
          subst this
          exact ⟨f, f, pf.mono X1, pg.mono X1, by simp, fun _ => rfl⟩
        · have : ((List.range (min xs.length ys.length)).all (fun _ => true) && xs.length == ys.length) = (kd.fields.length == kd'.fields.length) := by
            rw [List.all_eq_true.mpr fun _ _ => rfl, l1, l2, Bool.true_and]
          rw [this]
          exact q' H2 X2
      · rw [oV_eq, oV_eq, kd_eq, like_len hl]
        simp
    · exact s_ret (v := .bl false) (ev_is (ev_andV (a := false) (b := true) (ev_cb (ea_cons (ev_var rfl) (ea_cons ev_c ea_nil)) (fun H1 X1 Q' q' => by
        obtain ⟨Tn, l, ty, m1, m2⟩ := hy H1 X1
        exact ⟨y, _, .type Tn, _, false, rfl, .own _, ty, kit_no T.ic_Kind T.cl_Kind m1 m2, q' H1 (Ex.refl H1)⟩)) fun z => nomatch z) rfl) fun H1 X1 => kont H1 X1
end
section
variable {X : Cx} {P : Program} {K : PySem.W.Frag} {mg : Str → Option Value}
theorem kk_eqK (T : Txt P K mg) (G : FnOk X.prog X.w X.K X.mg X.base CX0 3 T.f_Kind_eq T.d_Kind_eq P_Kind_eq (spEqB (RK K T.C_Field T.C_Kind))) (hr : Room 3 X.A) (h : X.K = K := by rfl) : OpR X (compareOp .Eq) (rEqB (DOwn K T.C_Kind (RK K T.C_Field T.C_Kind))) := by
  subst h
  exact op_eqB (rcB_own (E := fun _ _ _ => False) G T.m_Kind_eq.at_ T.m_Kind_eq.fn T.B_Kind_eq pass0) hr
theorem kk_neK (T : Txt P K mg) (G : FnOk X.prog X.w X.K X.mg X.base CX0 3 T.f_Kind_eq T.d_Kind_eq P_Kind_eq (spEqB (RK K T.C_Field T.C_Kind))) (hr : Room 4 X.A) (h : X.K = K := by rfl) : OpR X (compareOp .NotEq) (rNeB (DOwn K T.C_Kind (RK K T.C_Field T.C_Kind))) := by
  subst h
  exact op_neB (E := fun _ _ _ => False) G T.ic_Kind.mo T.m_Kind_eq.at_ T.ic_Kind.ne T.m_Kind_eq.fn T.B_Kind_eq pass0 hr
/-! binding -/
def gUW {α : Type} (us _mv ws : List α) : List α := us ++ ws
theorem bdF (T : Txt P K mg) : ∃ ds, Vals [.non, .int 0, .ref T.e0_Field_init] ds ∧ Binds K T.d_Field_init P_Field_init ds :=
  T.F_Field_init.binds0 3 (by simp) rfl fun D doc pm an cdv ct us ks h1 h2 => match us, ks, h1, h2 with
    | [_, _, _], [_, _, _], _, _ => ⟨_, _, _, _, _, _, rfl, rfl, ⟨_, _, _, _, _, _, rfl, rfl, ⟨_, _, _, _, _, _, rfl, rfl, rfl⟩⟩⟩
theorem kbF (T : Txt P K mg) : ∃ mv : List Value, KBn K T.d_Field_init P_Field_init 3 ["target", "default", "was"] (fun us ws => gUW us mv ws) (fun vs zs => gUW vs [] zs) :=
  kbinds0 T.F_Field_init 3 ["target", "default", "was"] [] gUW (by simp) (by simp) (fun a _ c => a.append c) fun D doc pm an cdv ct us mv ws h1 h2 h3 => match us, mv, ws, h1, h2, h3 with
    | [_, _, _], [], [_, _, _], _, _, _ => rfl
theorem bdK (T : Txt P K mg) : ∃ ds, Vals [.non, .bl false, .bl false, .non, .bl false] ds ∧ Binds K T.d_Kind_init P_Kind_init ds :=
  T.F_Kind_init.binds0 3 (by simp) rfl fun D doc pm an cdv ct us ks h1 h2 => match us, ks, h1, h2 with
    | [_, _, _], [_, _, _, _, _], _, _ => ⟨_, _, _, _, _, _, rfl, rfl, ⟨_, _, _, _, _, _, rfl, rfl, ⟨_, _, _, _, _, _, rfl, rfl, ⟨_, _, _, _, _, _, rfl, rfl, ⟨_, _, _, _, _, _, rfl, rfl, rfl⟩⟩⟩⟩⟩
theorem kbK (T : Txt P K mg) : ∃ mv : List Value, KBn K T.d_Kind_init P_Kind_init 3 ["base", "frozen", "heirs", "key", "registered"] (fun us ws => gUW us mv ws) (fun vs zs => gUW vs [] zs) :=
  kbinds0 T.F_Kind_init 3 ["base", "frozen", "heirs", "key", "registered"] [] gUW (by simp) (by simp) (fun a _ c => a.append c) fun D doc pm an cdv ct us mv ws h1 h2 h3 => match us, mv, ws, h1, h2, h3 with
    | [_, _, _], [], [_, _, _, _, _], _, _, _ => rfl
end
end K01

namespace K01
open PySem L2 Way Evl
/-! words -/
theorem atG {α : Type} {l : List α} {i : Int} {j : Nat} {v : α} (e : i = (j : Int)) (h : l[j]? = some v) : atI l i = some v := by
  subst e
  have hj : j < l.length := (List.getElem?_eq_some_iff.mp h).1
  have h1 : (0 : Int) ≤ (j : Int) := by omega
  have h2 : (j : Int) < (l.length : Int) := by omega
  simp [atI, ixN, h1, h2, h]
theorem lets_app (x y : Str) : lets (x ++ y) = (lets x && lets y) := by
  have e : (x ++ y).cps.toList = x.cps.toList ++ y.cps.toList := TL.tl_append x y
  unfold lets
  rw [e, List.all_append]
theorem len_app (x y : Str) : (x ++ y).length = x.length + y.length := by
  have e : (x ++ y).cps.toList = x.cps.toList ++ y.cps.toList := TL.tl_append x y
  have h := congrArg List.length e
  rw [List.length_append] at h
  simpa [Str.length] using h
theorem lets_one {c : Nat} (h : c ∈ LET) : lets ⟨#[c]⟩ = true := by simp [lets, h]
theorem LET_len : LET.length = 26 := by decide +kernel
theorem LET_at {i : Int} (h0 : 0 ≤ i) (h1 : i < 26) : ∃ c, atI LET i = some c ∧ c ∈ LET := by
  have hj : i.toNat < LET.length := by rw [LET_len]; omega
  exact ⟨LET[i.toNat], atG (j := i.toNat) (by omega) (List.getElem?_eq_getElem hj), List.getElem_mem hj⟩
theorem rv_catS {x y : Str} {H : Hp} (h : x.length + y.length ≤ 100000) : RV (fun x y H Q => ∃ i j, x = V.str i ∧ y = V.str j ∧ i.length + j.length ≤ sizeLine ∧ Q (.str (i ++ j)) H) (.str x) (.str y) H (.str (x ++ y)) := fun H1 _ _ q => ⟨x, y, rfl, rfl, sz_of h, q H1 (Ex.refl H1)⟩
def spOneOf (K : PySem.W.Frag) : Sp := fun vs H Q _ => ∃ (p c l : Addr) (k : Nat) (xs : List V), vs = [.ref p, .ref l] ∧ Pen H p c k ∧ k ≤ 90000 ∧ H l = some (.lst xs) ∧ l ≠ p ∧ 0 < xs.length ∧ xs.length ≤ 100 ∧ ∀ H' v, v ∈ xs → Kp p H H' → Pen H' p c (k + 1) → Q v H'
def spWord : Sp := fun vs H Q _ => ∃ (p c : Addr) (k : Nat) (pl ix : Int) (b : Bool), vs = [.ref p, .int pl, .int ix, .bl b, .int 8] ∧ Pen H p c k ∧ k ≤ 80000 ∧ 0 ≤ pl ∧ pl ≤ 7 ∧ 0 ≤ ix ∧ ∀ H' x, Kp p H H' → Pen H' p c (k + 9) → fnS x = true → Q (.str x) H'
section
variable {P : Program} {w : World} {K : PySem.W.Frag} {mg : Str → Option Value} {base : Heap}
/-- take(pen, n) -/
theorem takeN {tn : TE} {σ : L2.St} {H : Hp} {p c : Addr} {k j : Nat} {E : XK} {n : Int} {Q : VK} (hσ : σ[j]? = some (some (.ref p))) (hn : Ev tn σ H (.int n)) (hP : Pen H p c k) (hk : k ≤ 100000) (h0 : 0 < n) (h1 : n ≤ 10000000000000000)
    (kont : ∀ H' d, Kp p H H' → Pen H' p c (k + 1) → 0 ≤ d → d < n → Q (.int d) H') : tCall spTake [] E (tCons (tVar j) (tCons tn tNil)) σ H Q :=
  ⟨_, hσ, hn H (Ex.refl H) _ fun H1 X1 => ⟨p, c, n, k, rfl, hP.mono X1, hk, h0, h1, fun H2 d K2 P2 d0 d1 => kont H2 d (Kp.trans (Kp.of X1) K2) P2 d0 d1⟩⟩
theorem ok_one_of (T : Txt P K mg) : FnOk P w K mg base CX0 2 T.f_one_of T.d_one_of P_one_of (spOneOf K) := by
  have G_take := ok_take (P := P) (w := w) (base := base) T
  refine T.F_one_of.ok sc_one_of (fun vs H Q E h => ?_) (fun cdv A outer s H vs Q E hr h => ?_)
  · obtain ⟨p, c, l, k, xs, rfl, _⟩ := h
    rfl
  · obtain ⟨p, c, l, k, xs, rfl, hP, hk, hl, hlp, h0, h1, kont⟩ := h
    refine ⟨_, (pss_one (ps_ret (pe_ix ix_list (pv 1) (pe_call G_take hr (by rfl) T.g_take T.F_take.kp T.B_take .nil pass0 (pa_cons (pv 0) (pa_cons (pe_callB call_len_seq (by rfl) T.b_len (by decide +kernel) (pa_cons (pv 1) pa_nil)) pa_nil))) (fun _ _ => rfl)))), ?_⟩
    refine ⟨_, rfl, takeN (n := (xs.length : Int)) rfl (ev_cb (ea_cons (ev_var rfl) ea_nil) (rc_lenL (K := K) (sq_of hl))) hP (by omega) (by omega) (by omega) fun H1 d K1 P1 d0 d1 => ?_⟩
    have hd : d.toNat < xs.length := by omega
    refine ⟨l, _, _, _, rfl, rfl, SqL.of (K1 _ _ hlp hl), at_of (j := d.toNat) (by omega) (List.getElem?_eq_getElem hd), ?_⟩
    exact kont _ _ (List.getElem_mem hd) K1 P1
theorem ok_word (T : Txt P K mg) : FnOk P w K mg base CX0 2 T.f_word T.d_word P_word spWord := by
  have G_take := ok_take (P := P) (w := w) (base := base) T
  refine T.F_word.ok sc_word (fun vs H Q E h => ?_) (fun cdv A outer s H vs Q E hr h => ?_)
  · obtain ⟨p, c, k, pl, ix, b, rfl, _⟩ := h
    rfl
  · obtain ⟨p, c, k, pl, ix, b, rfl, hP, hk, p0, p7, i0, kont⟩ := h
    refine ⟨_, (pss_cons (ps_set (i := 5) sc_word.nd rfl (Or.inl rfl) pe_str)
      (pss_cons (ps_set (i := 6) sc_word.nd rfl (Or.inl rfl) (pe_op op_add (pv 1) pe_int))
      (pss_cut (ps_if (pt_not (pt_val (pv 3))) (pss_one (ps_set (i := 6) sc_word.nd rfl (Or.inl rfl) (pe_op op_add (pv 6) (pe_call G_take hr (by rfl) T.g_take T.F_take.kp T.B_take .nil pass0 (pa_cons (pv 0) (pa_cons (pe_op op_sub (pv 4) (pv 1)) pa_nil)))))) pss_nil)
      (pss_cons (ps_set (i := 7) sc_word.nd rfl (Or.inl rfl) pe_str)
      (pss_cons (ps_for PassesOwn.never rfl (pi_range1 (by rfl) T.b_range (pa_cons (pv 6) pa_nil)) (pg_name (i := 8) sc_word.nd rfl (Or.inl rfl)) (pss_one (ps_if (pt_cmpR op_eq (pv 8) (pv 1) (nomark _)) (pss_one (ps_set (i := 7) sc_word.nd rfl (Or.inl rfl) (pe_op op_add_str (pv 7) (pe_ix ix_str (pv 5) (pe_op op_mod (pv 2) pe_int) (fun _ _ => rfl))))) (pss_one (ps_if (pt_val (pv 3)) (pss_one (ps_set (i := 7) sc_word.nd rfl (Or.inl rfl) (pe_op op_add_str (pv 7) pe_str))) (pss_one (ps_set (i := 7) sc_word.nd rfl (Or.inl rfl) (pe_op op_add_str (pv 7) (pe_ix ix_str (pv 5) (pe_call G_take hr (by rfl) T.g_take T.F_take.kp T.B_take .nil pass0 (pa_cons (pv 0) (pa_cons pe_int pa_nil))) (fun _ _ => rfl))))))))))
      (pss_one (ps_ret (pv 7)))))))), ?_⟩
    have hM : (0 : Int) < 26 := by decide
    refine q_asg ev_c fun H1 X1 => ?_
    refine q_asg (v := .int (pl + 1)) (ev_op (ev_var rfl) ev_c rv_I0) fun H2 X2 => ?_
    have X12 := X1.trans X2
    refine q_cut (M := fun σ' H' => ∃ n : Nat, 1 ≤ n ∧ n ≤ 8 ∧ pl < n ∧ σ' = [some (.ref p), some (.int pl), some (.int ix), some (.bl b), some (.int 8), some (.str "abcdefghijklmnopqrstuvwxyz"), some (.int (n : Int)), none, none] ∧ Kp p H H' ∧ Pen H' p c (k + 1)) ?_ ?_
    · refine s_when (et_not (et_B (ev_var rfl))) (fun q H3 X3 => ?_) (fun q H3 X3 => ?_)
      · have X13 := X12.trans X3
        refine ⟨_, rfl, takeN (n := 8 - pl) rfl (ev_op (ev_var rfl) (ev_var rfl) rv_I0) (hP.mono X13) (by omega) (by omega) (by omega) fun H4 d K4 P4 d0 d1 => ?_⟩
        refine ⟨_, _, rfl, rfl, ?_⟩
        refine ⟨(pl + 1 + d).toNat, by omega, by omega, by omega, ?_, Kp.trans (Kp.of X13) K4, P4⟩
        have : (((pl + 1 + d).toNat : Nat) : Int) = pl + 1 + d := by omega
        rw [this]
        rfl
      · refine ⟨(pl + 1).toNat, by omega, by omega, by omega, ?_, Kp.of (X12.trans X3), (hP.mono (X12.trans X3)).le (by omega)⟩
        have : (((pl + 1).toNat : Nat) : Int) = pl + 1 := by omega
        rw [this]
        rfl
    · rintro σ' H3 ⟨n, n1, n8, npl, rfl, K3, P3⟩
      refine q_asg ev_c fun H4 X4 => ?_
      refine q_forR1 (n := (n : Int)) (ea_cons (ev_var rfl) ea_nil) (by omega) (fun i σ H' => ∃ x v8, σ = [some (.ref p), some (.int pl), some (.int ix), some (.bl b), some (.int 8), some (.str "abcdefghijklmnopqrstuvwxyz"), some (.int (n : Int)), some (.str x), v8] ∧ Kp p H H' ∧ Pen H' p c (k + 1 + i) ∧ lets x = true ∧ x.length = i)
        (fun H5 X5 => ⟨Str.empty, none, rfl, Kp.trans K3 (Kp.of (X4.trans X5)), P3.mono (X4.trans X5), rfl, rfl⟩) ?_ ?_
      · rintro i σ' H' hi ⟨x, v8, rfl, K', P', lx, hx⟩
        have hi' : i < n := by omega
        refine s_if (b := decide ((i : Int) = pl)) (et_is (et_test (ev_op (ev_var rfl) (ev_var rfl) (rv_eq rfl))) (by simp)) (fun q H5 X5 => ?_) (fun q H5 X5 => ?_)
        · obtain ⟨ch, h1, h2⟩ := LET_at (i := ix % 26) (Int.emod_nonneg _ (by decide)) (Int.emod_lt_of_pos _ hM)
          refine s_asg (ev_op (ev_var rfl) (ev_op (ev_var rfl) (ev_op (ev_var rfl) ev_c (rv_I hM)) (rv_ixS (w := "abcdefghijklmnopqrstuvwxyz") (by decide +kernel) h1)) (rv_catS (by rw [hx]; show i + 1 ≤ _; omega))) fun H6 X6 => ?_
          exact ⟨_, _, rfl, Kp.trans K' (Kp.of (X5.trans X6)), (P'.mono (X5.trans X6)).le (by omega), by rw [lets_app, lx, lets_one h2]; rfl, by rw [len_app, hx]; rfl⟩
        · refine s_if (et_B (ev_var rfl)) (fun q2 H6 X6 => ?_) (fun q2 H6 X6 => ?_)
          · refine s_asg (ev_op (ev_var rfl) ev_c (rv_catS (y := "a") (by rw [hx]; show i + 1 ≤ _; omega))) fun H7 X7 => ?_
            exact ⟨_, _, rfl, Kp.trans K' (Kp.of ((X5.trans X6).trans X7)), (P'.mono ((X5.trans X6).trans X7)).le (by omega), by rw [lets_app, lx]; decide +kernel, by rw [len_app, hx]; rfl⟩
          · have X56 := X5.trans X6
            refine ⟨_, rfl, _, rfl, takeN (n := 26) rfl ev_c (P'.mono X56) (by omega) (by decide) (by decide) fun H7 d K7 P7 d0 d1 => ?_⟩
            obtain ⟨ch, h1, h2⟩ := LET_at d0 d1
            refine ⟨_, _, ch, rfl, rfl, sz_of (by decide +kernel), h1, ⟨_, _, rfl, rfl, sz_of (by rw [hx]; show i + 1 ≤ _; omega), ?_⟩⟩
            exact ⟨_, _, rfl, Kp.trans K' (Kp.trans (Kp.of X56) K7), P7, by rw [lets_app, lx, lets_one h2]; rfl, by rw [len_app, hx]; rfl⟩
      · rintro σ' H' ⟨x, v8, rfl, K', P', lx, hx⟩
        refine s_ret (ev_var rfl) fun H6 X6 => kont H6 x (Kp.trans K' (Kp.of X6)) ((P'.mono X6).le (by omega)) ?_
        have hx' : (x.length : Int) = n := by omega
        simp only [fnS, sz8, lx, hx', Bool.and_true, Bool.and_eq_true, decide_eq_true_eq]
        omega
end
end K01

namespace K01
open PySem L2 Way Evl
section
variable {K : PySem.W.Frag} {σ : L2.St} {H : Hp} {tl : TE} {t : TT} {te : TE} {g : TG} {vs : List Nat} {Q : VK}
theorem lc_seq (h : tl σ H fun v H1 => tLc (iList K (tC v)) g t te vs σ H1 Q) : tLc (iList K tl) g t te vs σ H Q := h
end
def spWords : Sp := fun vs H Q _ => ∃ (p c : Addr) (k n : Nat), vs = [.ref p, .int (n : Int), .int 8] ∧ Pen H p c k ∧ k ≤ 70000 ∧ n ≤ 20 ∧ ∀ l H' (ws : List Str), H l = none → Kp p H H' → Pen H' p c (k + 3 + 9 * n) → H' l = some (.lst (ws.map V.str)) → ws.length = n → (∀ x ∈ ws, fnS x = true) → Q (.ref l) H'
def spKNs : Sp := fun vs H Q _ => ∃ (p c : Addr) (k n : Nat), vs = [.ref p, .int (n : Int)] ∧ Pen H p c k ∧ k ≤ 70000 ∧ n ≤ 20 ∧ ∀ l H' (ws : List Str), H l = none → Kp p H H' → Pen H' p c (k + 3 + 9 * n) → H' l = some (.lst (ws.map V.str)) → ws.length = n → (∀ x ∈ ws, knS x = true) → Q (.ref l) H'
theorem up_cap : ∀ c ∈ LET, PyProof.Rows.up1 c ∈ CAP ∧ c < 128 := by decide +kernel
/-- the name of a kind out of a word -/
def capS (x : Str) : Str := ⟨((x.cps.toList.take 1).map PyProof.Rows.up1).toArray⟩ ++ ⟨(x.cps.toList.drop 1).toArray⟩
theorem capS_kn {x : Str} (h : fnS x = true) : knS (capS x) = true := by
  simp only [fnS, Bool.and_eq_true] at h
  obtain ⟨h8, hl⟩ := h
  obtain ⟨c, r, e, hle⟩ := sz8_cons h8
  unfold lets at hl
  have e1 : (capS x).cps.toList = PyProof.Rows.up1 c :: r := by
    have := TL.tl_append ⟨((x.cps.toList.take 1).map PyProof.Rows.up1).toArray⟩ ⟨(x.cps.toList.drop 1).toArray⟩
    unfold capS
    refine this.trans ?_
    rw [e]
    rfl
  rw [e, List.all_cons, Bool.and_eq_true, decide_eq_true_eq] at hl
  have hlen : (capS x).length = x.length := by
    have h1 : (capS x).length = (capS x).cps.toList.length := by simp [Str.length]
    have h2 : x.length = x.cps.toList.length := by simp [Str.length]
    rw [h1, h2, e1, e]; rfl
  simp only [knS, sz8, hlen, e1, capL, Bool.and_eq_true, decide_eq_true_eq]
  simp only [sz8, Bool.and_eq_true, decide_eq_true_eq] at h8
  exact ⟨h8, (up_cap c hl.1).1, hl.2⟩
theorem up_one {c : Nat} (h : c ∈ LET) : Txt.upper ⟨#[c]⟩ = ⟨#[PyProof.Rows.up1 c]⟩ := by
  have := SX.upper_S (a := [c]) (by simp [(up_cap c h).2])
  simpa using this
theorem ev_up {σ : L2.St} {H : Hp} {te : TE} {x : Str} (h : Ev te σ H (.str x)) (hl : x.length ≤ 100) : Ev (tM0 (fun x xs H Q => ∃ a, x = .str a ∧ xs = [] ∧ a.length ≤ 5592405 ∧ Q (.str (Txt.upper a)) H) te) σ H (.str (Txt.upper x)) := fun H1 e Q q =>
  h H1 e _ fun H2 e2 => ⟨⟨x, rfl⟩, x, rfl, rfl, by omega, q H2 e2⟩
section
variable {P : Program} {w : World} {K : PySem.W.Frag} {mg : Str → Option Value} {base : Heap}
theorem ok_words (T : Txt P K mg) : FnOk P w K mg base CX0 3 T.f_words T.d_words P_words spWords := by
  have G_one_of := ok_one_of (P := P) (w := w) (base := base) T
  have G_take := ok_take (P := P) (w := w) (base := base) T
  have G_word := ok_word (P := P) (w := w) (base := base) T
  refine T.F_words.ok sc_words (fun vs H Q E h => ?_) (fun cdv A outer s H vs Q E hr h => ?_)
  · obtain ⟨p, c, k, n, rfl, _⟩ := h
    rfl
  · obtain ⟨p, c, k, n, rfl, hP, hk, hn, kont⟩ := h
    refine ⟨_, (pss_cons (ps_set (i := 3) sc_words.nd rfl (Or.inr rfl) (pe_cmpR op_gt (pe_call G_take (hr.mono (by decide)) (by rfl) T.g_take T.F_take.kp T.B_take .nil pass0 (pa_cons (pv 0) (pa_cons pe_int pa_nil))) pe_int (nomark _)))
      (pss_cons (ps_set (i := 4) sc_words.nd rfl (Or.inr rfl) (pe_call G_one_of hr (by rfl) T.g_one_of T.F_one_of.kp T.B_one_of .nil pass0 (pa_cons (pv 0) (pa_cons (pe_lst (pa_cons pe_int (pa_cons pe_int (pa_cons pe_int (pa_cons (pe_op op_sub (pv 2) pe_int) pa_nil))))) pa_nil))))
      (pss_cons (ps_set (i := 5) sc_words.nd rfl (Or.inr rfl) (pe_call G_take (hr.mono (by decide)) (by rfl) T.g_take T.F_take.kp T.B_take .nil pass0 (pa_cons (pv 0) (pa_cons pe_int pa_nil))))
      (pss_one (ps_ret (pe_lc (own := [("_law_k", 6)]) (g := gName 6) (by rfl) sc_words.nd (pi_range1 (by rfl) T.b_range (pa_cons (pv 1) pa_nil)) (blkOk_by (own := [("_law_k", 6)]) (N := N_words) (sc := defScope s_words) (by decide +kernel)) (fun _ _ _ _ _ => (pg_name (i := 6) sc_words.nd rfl (Or.inl rfl))) (fun _ _ _ _ _ => pts_nil) (fun _ _ _ _ _ => (pe_call G_word hr (by rfl) T.g_word T.F_word.kp T.B_word .nil pass0 (pa_cons (pv 0) (pa_cons (pv 4) (pa_cons (pe_op op_add (pv 5) (pv 6)) (pa_cons (pv 3) (pa_cons (pv 2) pa_nil))))))))))))), ?_⟩
    refine takeN (n := 3) rfl ev_c hP (by omega) (by decide) (by decide) fun H1 d1 K1 P1 a0 a1 => ⟨_, _, rfl, rfl, ?_⟩
    refine ⟨_, rfl, (el_lst (vs := [.int 0, .int 0, .int 1, .int 7]) (ea_cons ev_c (ea_cons ev_c (ea_cons ev_c (ea_cons (ev_op (ev_var rfl) ev_c rv_I0) ea_nil)))) (Nat.le_of_ble_eq_true rfl) : EvL _ _ H1 _) H1 (Ex.refl H1) _ fun l H2 hl X2 h2 => ?_⟩
    refine ⟨p, c, l, k + 1, _, rfl, P1.mono X2, by omega, h2, P1.ne hl, by decide, by decide, fun H3 v hv K3 P3 => ?_⟩
    obtain ⟨pl, rfl, p0, p7⟩ : ∃ pl : Int, v = .int pl ∧ 0 ≤ pl ∧ pl ≤ 7 := by
      simp only [List.mem_cons, List.not_mem_nil, or_false] at hv
      rcases hv with rfl | rfl | rfl | rfl
      · exact ⟨0, rfl, by decide, by decide⟩
      · exact ⟨0, rfl, by decide, by decide⟩
      · exact ⟨1, rfl, by decide, by decide⟩
      · exact ⟨7, rfl, by decide, by decide⟩
    refine takeN (n := 26) rfl ev_c P3 (by omega) (by decide) (by decide) fun H4 o K4 P4 o0 o1 => ?_
    have K04 : Kp p H H4 := Kp.trans K1 (Kp.trans (Kp.of X2) (Kp.trans K3 K4))
    refine ⟨_, rfl, (n : Int), rfl, by omega, by omega, fun D hD => ?_⟩
    have hDp := P4.ne hD
    refine lc_range (fun i H' => ∃ ws : List Str, H' D = some (.lst (ws.map V.str)) ∧ ws.length = i ∧ (∀ x ∈ ws, fnS x = true) ∧ Kp p H4 H' ∧ Pen H' p c (k + 3 + 9 * i)) ?_ ?_ ?_
    · exact ⟨[], upd_same, rfl, fun x hx => absurd hx List.not_mem_nil, Kp.new (Kp.refl _ _) hD, (P4.upd hDp (P4.neC hD)).le (by omega)⟩
    · rintro i H' hi ⟨ws, h1, h2, h3, h4, h5⟩
      have hi' : i < n := by simpa using hi
      refine ⟨rfl, ?_⟩
      refine ⟨_, rfl, _, rfl, _, rfl, _, rfl, ⟨_, _, rfl, rfl, ⟨_, rfl, _, rfl, ?_⟩⟩⟩
      refine ⟨p, c, k + 3 + 9 * i, pl, o + i, decide ((0 : Int) < d1), ?_, h5, by omega, p0, p7, by omega, fun H5 x K5 P5 fx => ?_⟩
      · simp
      · refine ⟨ws.map V.str, K5 _ _ hDp h1, sz_lt (by rw [List.length_map]; omega), ws ++ [x], by rw [upd_same, List.map_append]; rfl, by rw [List.length_append, h2]; rfl, fun y hy => ?_, Kp.new (Kp.trans h4 K5) hD, (P5.upd hDp (P4.neC hD)).le (by omega)⟩
        · rcases List.mem_append.mp hy with hy | hy
          · exact h3 y hy
          · rw [List.mem_singleton.mp hy]; exact fx
    · rintro H' ⟨ws, h1, h2, h3, h4, h5⟩
      have e : ((n : Int)).toNat = n := by omega
      rw [e] at h2 h5
      exact kont D H' ws (Kp.free K04 hDp hD) (Kp.trans K04 h4) h5 h1 h2 h3
theorem ok_kind_names (T : Txt P K mg) : FnOk P w K mg base CX0 4 T.f_kind_names T.d_kind_names P_kind_names spKNs := by
  have G_words := ok_words (P := P) (w := w) (base := base) T
  refine T.F_kind_names.ok sc_kind_names (fun vs H Q E h => ?_) (fun cdv A outer s H vs Q E hr h => ?_)
  · obtain ⟨p, c, k, n, rfl, _⟩ := h
    rfl
  · obtain ⟨p, c, k, n, rfl, hP, hk, hn, kont⟩ := h
    refine ⟨_, (pss_one (ps_ret (pe_lc (own := [("_law_word_here", 2)]) (g := gName 2) (by rfl) sc_kind_names.nd (pi_list (pe_call G_words hr (by rfl) T.g_words T.F_words.kp T.B_words .nil pass0 (pa_cons (pv 0) (pa_cons (pv 1) (pa_cons pe_int pa_nil))))) (blkOk_by (own := [("_law_word_here", 2)]) (N := N_kind_names) (sc := defScope s_kind_names) (by decide +kernel)) (fun _ _ _ _ _ => (pg_name (i := 2) sc_kind_names.nd rfl (Or.inl rfl))) (fun _ _ _ _ _ => pts_nil) (fun _ _ _ _ _ => (pe_op op_add_str (pe_upper (pe_ix ix_str (pv 2) pe_int (fun _ _ => rfl))) (pe_slice C8.sl_txt (pv 2) (po_some pe_int) po_none)))))), ?_⟩
    refine lc_seq ?_
    refine ⟨_, rfl, _, rfl, p, c, k, n, rfl, hP, hk, hn, fun l H1 ws hl K1 P1 h1 hlen hf => ?_⟩
    have e : ws.map (fun x => V.str (capS x)) = (ws.map capS).map V.str := by rw [List.map_map]; rfl
    refine (el_mapL (K := K) (α := Str) (P := fun x v _ => v = .str x) (S := ws) (w := fun x => .str (capS x)) (fun _ _ _ _ _ z => z) ev_c ⟨l, _, rfl, h1, ?_⟩ (by omega) (fun _ => rfl) (fun v x H2 X2 hx hv => ?_) : EvL _ _ H1 _) H1 (Ex.refl H1) _ fun D H2 hD X2 h2 => ?_
    · clear h1 hlen hf e
      induction ws with
      | nil => exact .nil
      | cons a r ih => exact .cons rfl ih
    · subst hv
      have fx := hf x hx
      simp only [fnS, Bool.and_eq_true] at fx
      obtain ⟨ch, r, e1, h8⟩ := sz8_cons fx.1
      have hc : ch ∈ LET := by
        have h2 := fx.2
        unfold lets at h2
        rw [e1, List.all_cons, Bool.and_eq_true, decide_eq_true_eq] at h2
        exact h2.1
      have hlr : r.length ≤ 8 := by
        have h1 : x.cps.toList.length = x.length := by simp [Str.length]
        rw [e1, List.length_cons] at h1
        omega
      refine ev_is (ev_op (ev_up (ev_op (ev_var rfl) ev_c (rv_ixS (by omega) (at0 e1))) (by show 1 ≤ 100; decide)) (ev_is (ev_slX (ev_var rfl) (eo_some ev_c) eo_none (by omega)) (congrArg V.str (slice1 e1))) (rv_catS ?_)) ?_
      · have e2 : (Txt.upper ⟨#[ch]⟩) = ⟨#[PyProof.Rows.up1 ch]⟩ := up_one hc
        rw [e2]
        show 1 + (Str.mk r.toArray).length ≤ _
        have : (Str.mk r.toArray).length = r.length := by simp [Str.length]
        omega
      · have e2 : (Txt.upper ⟨#[ch]⟩) = ⟨#[PyProof.Rows.up1 ch]⟩ := up_one hc
        rw [e2]
        unfold capS
        rw [e1]
        rfl
    · rw [e] at h2
      have hDp := P1.ne hD
      refine kont D H2 (ws.map capS) (Kp.free K1 hDp hD) (Kp.trans K1 (Kp.of X2)) (P1.mono X2) h2 (by rw [List.length_map, hlen]) fun y hy => ?_
      obtain ⟨x, hx, rfl⟩ := List.mem_map.mp hy
      exact capS_kn (hf x hx)
end
/-! the same showing -/
def Fit (d : PyData) : Prop := d.showable = true ∧ d.depth ≤ 60 ∧ d.shown.length ≤ sizeLine
def spSame (K : PySem.W.Frag) : Sp := fun vs H Q _ => ∃ (u v : V) (d e : PyData), vs = [u, v] ∧ (∀ H1, Ex H H1 → Shn K H1 u d) ∧ (∀ H1, Ex H H1 → Shn K H1 v e) ∧ Fit d ∧ Fit e ∧ ∀ H', Ex H H' → Q (.bl (decide (d.shown = e.shown))) H'
section
variable {P : Program} {w : World} {K : PySem.W.Frag} {mg : Str → Option Value} {base : Heap}
theorem ok_same (T : Txt P K mg) : FnG P w K mg base CX0 1 T.f_same T.d_same P_same (spSame K) := by
  refine okG T.F_same sc_same (fun vs H Q E h => ?_) (fun cdv A outer s H vs Q E hgd hr h => ?_)
  · obtain ⟨u, v, d, e, rfl, _⟩ := h
    rfl
  · obtain ⟨u, v, d, e, rfl, hu, hv, fd, fe, kont⟩ := h
    refine ⟨_, (pss_one (ps_ret (pe_cmpR op_eq (pe_callB (Way.call_reprQ hgd hr) (by rfl) T.b_repr (by decide +kernel) (pa_cons (pv 0) pa_nil)) (pe_callB (Way.call_reprQ hgd hr) (by rfl) T.b_repr (by decide +kernel) (pa_cons (pv 1) pa_nil)) (nomark _)))), ?_⟩
    refine s_ret (ev_is (ev_op (ev_cb (ea_cons (ev_var rfl) ea_nil) fun H1 X1 Q' q => ⟨u, d, rfl, hu H1 X1, fd.1, fd.2.1, fd.2.2, q H1 (Ex.refl H1)⟩) (ev_cb (ea_cons (ev_var rfl) ea_nil) fun H1 X1 Q' q => ⟨v, e, rfl, hv H1 X1, fe.1, fe.2.1, fe.2.2, q H1 (Ex.refl H1)⟩) (rv_eq rfl)) ?_) fun H1 X1 => kont H1 X1
    exact congrArg V.bl (decide_eq_decide.mpr ⟨fun h => V.str.inj h, fun h => congrArg V.str h⟩)
end
/-! odd values -/
structure PVm (K : PySem.W.Frag) (H : Hp) (v : V) (d : PyData) : Prop where
  p : PV K H v d
  m : ∀ ds, d = .list ds → ∃ a xs, v = .ref a ∧ H a = some (.lst xs) ∧ xs.length ≤ 3 ∧ DpAll K H xs ds
theorem pv_allE {K : PySem.W.Frag} {H : Hp} {v : V} {ds : List PyData} (p : PV K H v (.list ds)) : ds.all plE = true := by
  cases p with
  | dp h p =>
    simp only [pl, Bool.and_eq_true] at p
    exact p.2
theorem PVm.mono {K : PySem.W.Frag} {H H' : Hp} {v : V} {d : PyData} (e : Ex H H') (h : PVm K H v d) : PVm K H' v d := ⟨h.p.mono e, fun ds q => let ⟨a, xs, h1, h2, h3, h4⟩ := h.m ds q; ⟨a, xs, h1, e _ _ h2, h3, dpAll_keep (.of e) (by subst q; exact pv_allE h.p) h4⟩⟩
/-- entries that are no lists -/
def fl1 : PyData → Bool
  | .list ds => ds.all plA
  | .tuple ds => ds.all plA
  | _ => true
def Od (K : PySem.W.Frag) (H0 : Hp) (v : V) (H : Hp) : Prop := ∃ d, PVm K H v d ∧ fl1 d = true ∧ ∀ a, v = .ref a → H0 a = none
theorem od_mono {K : PySem.W.Frag} {H0 : Hp} : ∀ v H1 H2, Ex H1 H2 → Od K H0 v H1 → Od K H0 v H2 := fun v H1 H2 e ⟨d, h1, h2⟩ => ⟨d, h1.mono e, h2⟩
/-- what ta lays: n things of P -/
def EvD (ta : TA) (σ : L2.St) (H : Hp) (P : V → Hp → Prop) (n : Nat) : Prop := EvXA ta σ H fun vs H' => (∀ v ∈ vs, P v H') ∧ vs.length = n
section
variable {K : PySem.W.Frag} {σ : L2.St} {H H0 : Hp} {te tf : TE} {ta tr : TA} {P : V → Hp → Prop} {n m : Nat} {v : V} {d : PyData}
theorem evd_nil : EvD tNil σ H P 0 := exa_nil fun H1 => ⟨fun v hv => absurd hv List.not_mem_nil, rfl⟩
theorem evd_cons (mn : ∀ v H1 H2, Ex H1 H2 → P v H1 → P v H2) (h : EvX te σ H P) (r : EvD tr σ H P n) : EvD (tCons te tr) σ H P (n + 1) :=
  exa_cons h r mn fun v vs H1 hv ⟨h1, h2⟩ => ⟨fun x hx => (List.mem_cons.mp hx).elim (fun e => by rw [e]; exact hv) (h1 x), by rw [List.length_cons, h2]⟩
def LsD (P : V → Hp → Prop) (n : Nat) : V → Hp → Prop := fun v H' => ∃ p xs, v = .ref p ∧ H' p = some (.lst xs) ∧ (∀ v ∈ xs, P v H') ∧ xs.length = n
theorem ex_lstD (mn : ∀ v H1 H2, Ex H1 H2 → P v H1 → P v H2) (h : EvD ta σ H P n) (hn : n ≤ 1000) : EvX (tLst ta) σ H (LsD P n) := ex_lst h (fun vs H1 H2 e ⟨h1, h2⟩ => ⟨fun v hv => mn v H1 H2 e (h1 v hv), h2⟩) fun vs H1 ⟨_, h2⟩ => by omega
theorem LsD.mono {H' : Hp} (mn : ∀ v H1 H2, Ex H1 H2 → P v H1 → P v H2) (e : Ex H H') (h : LsD P n v H) : LsD P n v H' := let ⟨p, xs, h1, h2, h3, h4⟩ := h; ⟨p, xs, h1, e _ _ h2, fun v hv => mn v _ _ e (h3 v hv), h4⟩
theorem ex_catD (mn : ∀ v H1 H2, Ex H1 H2 → P v H1 → P v H2) (h : EvX te σ H (LsD P n)) (h2 : EvX tf σ H (LsD P m)) (hn : n ≤ 1000) (hm : m ≤ 1000) : EvX (tOp rCat te tf) σ H (LsD P (n + m)) :=
  (ex_cat (R := fun xs H' => (∀ v ∈ xs, P v H') ∧ xs.length = n) (S := fun xs H' => (∀ v ∈ xs, P v H') ∧ xs.length = m) h h2 (fun vs H1 H2 e ⟨h1, h2⟩ => ⟨fun v hv => mn v H1 H2 e (h1 v hv), h2⟩) (fun vs H1 H2 e ⟨h1, h2⟩ => ⟨fun v hv => mn v H1 H2 e (h1 v hv), h2⟩) (fun vs H1 ⟨_, h2⟩ => by omega) (fun vs H1 ⟨_, h2⟩ => by omega)).to fun v H1 e ⟨p, zs, h1, h2, xs, ys, h3, ⟨h4, h5⟩, h6, h7⟩ => ⟨p, zs, h1, h2, fun y hy => by
    rw [h3] at hy
    exact (List.mem_append.mp hy).elim (h4 y) (h6 y), by rw [h3, List.length_append, h5, h7]⟩
theorem od_at (h : Ev te σ H v) (q : Dp K H v d) (p : plA d = true) : EvX te σ H (Od K H0) := EvX.of h fun H1 X1 => by
  refine ⟨d, ⟨.dp (dpA_keep p q) ?_, fun ds z => ?_⟩, ?_, fun a ha => ?_⟩
  · cases d <;> simp_all [pl, plA]
  · subst z; simp [plA] at p
  · cases d <;> simp_all [fl1, plA]
  · subst ha
    cases q <;> simp [plA] at p
theorem od_c (q : Dp K H v d) (p : plA d = true := by decide +kernel) : EvX (tC v) σ H (Od K H0) := od_at ev_c q p
theorem plA_E {ds : List PyData} (h : ds.all plA = true) : ds.all plE = true := List.all_eq_true.mpr fun d hd => by
  have := List.all_eq_true.mp h d hd
  cases d with
  | list _ => simp [plA] at this
  | _ => exact this
theorem dpAll_atoms {H' : Hp} : ∀ {vs : List V} {ds : List PyData}, ds.all plA = true → DpAll K H vs ds → DpAll K H' vs ds
  | _, _, _, .nil => .nil
  | _, _, p, .cons a r => by
    rw [List.all_cons, Bool.and_eq_true] at p
    exact .cons (dpA_keep p.1 a) (dpAll_atoms p.2 r)
theorem od_tup {xs : List V} {ds : List PyData} (h : EvA ta σ H xs) (q : DpAll K H xs ds) (p : (ds.all plA && decide (ds.length ≤ 3)) = true) (e0 : ∀ a, H a = none → H0 a = none := by intro a h; exact h) : EvX (tTup ta) σ H (Od K H0) := fun H1 e Q k => by
  simp only [Bool.and_eq_true, decide_eq_true_eq] at p
  refine eu_tup h (by rw [dpAll_len q]; omega) H1 e _ fun t H2 hn e2 h2 => k _ _ e2 ⟨.tuple ds, ⟨.dp (.tup (SqT.of h2) (dpAll_atoms p.1 q)) ?_, fun ds z => nomatch z⟩, p.1, fun a ha => ?_⟩
  · simp only [pl, plA_E p.1, p.2, decide_true, Bool.and_self]
  · cases ha
    exact e0 _ (fresh_back e hn)
theorem od_lst {xs : List V} {ds : List PyData} (h : EvA ta σ H xs) (q : DpAll K H xs ds) (p : (ds.all plA && decide (ds.length ≤ 3)) = true) (e0 : ∀ a, H a = none → H0 a = none := by intro a h; exact h) : EvX (tLst ta) σ H (Od K H0) := fun H1 e Q k => by
  simp only [Bool.and_eq_true, decide_eq_true_eq] at p
  refine el_lst h (by rw [dpAll_len q]; omega) H1 e _ fun t H2 hn e2 h2 => k _ _ e2 ⟨.list ds, ⟨.dp (.lst (SqL.of h2) (dpAll_atoms p.1 q)) ?_, fun ds z => ⟨t, xs, rfl, h2, by rw [dpAll_len q]; exact p.2, by cases z; exact dpAll_atoms p.1 q⟩⟩, p.1, fun a ha => ?_⟩
  · simp only [pl, plA_E p.1, p.2, decide_true, Bool.and_self]
  · cases ha
    exact e0 _ (fresh_back e hn)
end
end K01

namespace K01
open PySem L2 Way Evl
theorem PVm.kp {K : PySem.W.Frag} {H H' : Hp} {v : V} {d : PyData} {s : Addr} (o : Off H s) (k : Kp s H H') (h : PVm K H v d) : PVm K H' v d := ⟨h.p.kp o k, fun ds q => by
  obtain ⟨a, xs, h1, h2, h3, h4⟩ := h.m ds q
  exact ⟨a, xs, h1, k _ _ (fun z => by rw [z] at h2; have := o.l _ h2; omega) h2, h3, dpAll_keep (Kps.kp o k) (by subst q; exact pv_allE h.p) h4⟩⟩
theorem Od.kp {K : PySem.W.Frag} {H0 H H' : Hp} {v : V} {s : Addr} (o : Off H s) (k : Kp s H H') (h : Od K H0 v H) : Od K H0 v H' := let ⟨d, h1, h2⟩ := h; ⟨d, h1.kp o k, h2⟩
theorem Pen.off {H : Hp} {p c : Addr} {k : Nat} (h : Pen H p c k) : Off H p := let ⟨_, _, _, _, _, _, h1, _⟩ := h; off_pen h1
theorem od_emp {K : PySem.W.Frag} {σ : L2.St} {H H0 : Hp} (e0 : ∀ a, H a = none → H0 a = none := by intro a h; exact h) : EvX tDNewK σ H (Od K H0) := fun H1 e Q k p hp => k _ _ (Ex.new hp) ⟨.dict [], ⟨.emp upd_same, fun ds z => nomatch z⟩, rfl, fun a ha => by
  cases ha
  exact e0 _ (fresh_back e hp)⟩
def spOdd (K : PySem.W.Frag) : Sp := fun vs H Q _ => ∃ (p c : Addr) (k : Nat), vs = [.ref p] ∧ Pen H p c k ∧ k ≤ 80000 ∧ ∀ H' v, Kp p H H' → Pen H' p c (k + 1) → Od K H v H' → Q v H'
section
variable {P : Program} {w : World} {K : PySem.W.Frag} {mg : Str → Option Value} {base : Heap}
theorem ok_odd (T : Txt P K mg) : FnOk P w K mg base CX0 3 T.f_odd T.d_odd P_odd (spOdd K) := by
  have G_one_of := ok_one_of (P := P) (w := w) (base := base) T
  refine T.F_odd.ok sc_odd (fun vs H Q E h => ?_) (fun cdv A outer s H vs Q E hr h => ?_)
  · obtain ⟨p, c, k, rfl, _⟩ := h
    rfl
  · obtain ⟨p, c, k, rfl, hP, hk, kont⟩ := h
    refine ⟨_, (pss_cons (ps_set (i := 1) sc_odd.nd rfl (Or.inl rfl) (pe_lst (pa_cons pe_non (pa_cons pe_bl (pa_cons pe_bl (pa_cons pe_int (pa_cons pe_int (pa_cons (pe_un un_neg pe_int) (pa_cons (pe_op op_pow pe_int pe_int) (pa_cons pe_str (pa_cons pe_str (pa_cons pe_str (pa_cons pe_str (pa_cons pe_str (pa_cons pe_str (pa_cons pe_str (pa_cons pe_str (pa_cons (pe_tup pa_nil) (pa_cons (pe_lst pa_nil) (pa_cons pe_dnewK pa_nil))))))))))))))))))))
      (pss_one (ps_ret (pe_call G_one_of hr (by rfl) T.g_one_of T.F_one_of.kp T.B_one_of .nil pass0 (pa_cons (pv 0) (pa_cons (pe_op op_cat (pv 1) (pe_lst (pa_cons (pe_tup (pa_cons pe_str pa_nil)) (pa_cons (pe_lst (pa_cons pe_str pa_nil)) (pa_cons pe_str (pa_cons pe_str (pa_cons pe_str (pa_cons pe_str (pa_cons (pe_op op_pow pe_int pe_int) (pa_cons pe_str (pa_cons (pe_tup (pa_cons pe_str (pa_cons pe_non pa_nil))) pa_nil))))))))))) pa_nil)))))), ?_⟩
    refine x_asg (ex_lstD (P := Od K H) od_mono
      (evd_cons od_mono (od_c .non)
      (evd_cons od_mono (od_c (.bl _))
      (evd_cons od_mono (od_c (.bl _))
      (evd_cons od_mono (od_c (.int _))
      (evd_cons od_mono (od_c (.int _))
      (evd_cons od_mono (od_at (ev_un ev_c ru_neg) (.int _) (by decide +kernel))
      (evd_cons od_mono (od_at (ev_op ev_c ev_c (rv_I ⟨by decide, by decide, by decide⟩)) (.int _) (by decide +kernel))
      (evd_cons od_mono (od_c (.str _))
      (evd_cons od_mono (od_c (.str _))
      (evd_cons od_mono (od_c (.str _))
      (evd_cons od_mono (od_c (.str _))
      (evd_cons od_mono (od_c (.str _))
      (evd_cons od_mono (od_c (.str _))
      (evd_cons od_mono (od_c (.str _))
      (evd_cons od_mono (od_c (.str _))
      (evd_cons od_mono (od_tup ea_nil .nil (by decide +kernel))
      (evd_cons od_mono (od_lst ea_nil .nil (by decide +kernel))
      (evd_cons od_mono od_emp
      evd_nil))))))))))))))))))
      (by decide)) fun v H1 X1 h1 => ?_
    refine ⟨_, rfl, (ex_catD (P := Od K H) od_mono (EvX.of (ev_var rfl) fun H2 X2 => h1.mono od_mono X2) (ex_lstD (P := Od K H) od_mono
      (evd_cons od_mono (od_tup (ea_cons ev_c ea_nil) (.cons (.str _) .nil) (by decide +kernel) (fun a h => fresh_back X1 h))
      (evd_cons od_mono (od_lst (ea_cons ev_c ea_nil) (.cons (.str _) .nil) (by decide +kernel) (fun a h => fresh_back X1 h))
      (evd_cons od_mono (od_c (.str _))
      (evd_cons od_mono (od_c (.str _))
      (evd_cons od_mono (od_c (.str _))
      (evd_cons od_mono (od_c (.str _))
      (evd_cons od_mono (od_at (ev_op ev_c ev_c (rv_I ⟨by decide, by decide, by decide⟩)) (.int _) (by decide +kernel))
      (evd_cons od_mono (od_c (.str _))
      (evd_cons od_mono (od_tup (ea_cons ev_c (ea_cons ev_c ea_nil)) (.cons (.str _) (.cons .non .nil)) (by decide +kernel) (fun a h => fresh_back X1 h))
      evd_nil)))))))))
      (by decide)) (by decide) (by decide) : EvX _ _ H1 _) H1 (Ex.refl H1) _ fun u H2 X2 ⟨l, xs, eu, hl, hx, hlen⟩ => ?_⟩
    subst eu
    have P2 := hP.mono (X1.trans X2)
    obtain ⟨kvs, hp⟩ := P2.here
    refine ⟨p, c, l, k, xs, rfl, P2, by omega, hl, (fun z => by rw [z, hp] at hl; cases hl), by omega, by omega, fun H3 y hy K3 P3 => ?_⟩
    exact kont H3 y (Kp.trans (Kp.of (X1.trans X2)) K3) P3 ((hx y hy).kp (Pen.off P2) K3)
end
/-! elder names -/
def Pm (K : PySem.W.Frag) (H0 : Hp) (v : V) (H : Hp) : Prop := ∃ d, PVm K H v d ∧ ∀ a, v = .ref a → H0 a = none
theorem pm_mono {K : PySem.W.Frag} {H0 : Hp} : ∀ v H1 H2, Ex H1 H2 → Pm K H0 v H1 → Pm K H0 v H2 := fun v H1 H2 e ⟨d, h, f⟩ => ⟨d, h.mono e, f⟩
theorem Pm.kp {K : PySem.W.Frag} {H0 H H' : Hp} {v : V} {s : Addr} (o : Off H s) (k : Kp s H H') (h : Pm K H0 v H) : Pm K H0 v H' := let ⟨d, h1, f⟩ := h; ⟨d, h1.kp o k, f⟩
theorem Od.pm {K : PySem.W.Frag} {H0 H : Hp} {v : V} (h : Od K H0 v H) : Pm K H0 v H := let ⟨d, h1, _, f⟩ := h; ⟨d, h1, f⟩
theorem Pm.le {K : PySem.W.Frag} {H0 H1 H : Hp} {v : V} (e : ∀ a, H1 a = none → H0 a = none) (h : Pm K H1 v H) : Pm K H0 v H := let ⟨d, h1, f⟩ := h; ⟨d, h1, fun a q => e a (f a q)⟩
theorem LET_pl : ∀ c ∈ LET, plC c = true := by decide +kernel
theorem CAP_pl : ∀ c ∈ CAP, plC c = true := by decide +kernel
theorem fnS_pl {x : Str} (h : fnS x = true) : plS x = true := by
  simp only [fnS, Bool.and_eq_true] at h
  obtain ⟨c, r, e, h8⟩ := sz8_cons h.1
  have hs : x.cps.size ≤ 20 := by have : x.cps.size ≤ 8 := h8; omega
  simp only [plS, Bool.and_eq_true, decide_eq_true_eq]
  refine ⟨List.all_eq_true.mpr fun c hc => LET_pl c ?_, hs⟩
  have := List.all_eq_true.mp h.2 c hc
  simpa using this
theorem knS_pl {x : Str} (h : knS x = true) : plS x = true := by
  simp only [knS, Bool.and_eq_true] at h
  obtain ⟨c, r, e, h8⟩ := sz8_cons h.1
  have hs : x.cps.size ≤ 20 := by have : x.cps.size ≤ 8 := h8; omega
  simp only [plS, Bool.and_eq_true, decide_eq_true_eq]
  refine ⟨List.all_eq_true.mpr fun y hy => ?_, hs⟩
  have h2 := h.2
  rw [e] at h2 hy
  simp only [capL, Bool.and_eq_true, decide_eq_true_eq] at h2
  rcases List.mem_cons.mp hy with rfl | hy
  · exact CAP_pl _ h2.1
  · have := List.all_eq_true.mp h2.2 y hy
    exact LET_pl _ (by simpa using this)
theorem all_plA {l : List Str} (h : ∀ x ∈ l, plS x = true) : (l.map PyData.str).all plA = true := List.all_eq_true.mpr fun d hd => by
  obtain ⟨x, hx, rfl⟩ := List.mem_map.mp hd
  exact h x hx
theorem pv_of {K : PySem.W.Frag} {H : Hp} {x : Str} (h : plS x = true) : PVm K H (.str x) (.str x) := ⟨.dp (.str x) h, fun ds z => nomatch z⟩
section
variable {K : PySem.W.Frag} {σ : L2.St} {H H0 : Hp} {te tf : TE} {ta tr : TA}
theorem pm_tup {l : List Str} (h : EvA ta σ H (l.map V.str)) (hp : ∀ x ∈ l, plS x = true) (hl : l.length ≤ 3) (e0 : ∀ a, H a = none → H0 a = none) : EvX (tTup ta) σ H (Pm K H0) := (od_tup (K := K) (H0 := H0) h (dp_strs l) (by rw [all_plA hp, List.length_map, decide_eq_true hl]; rfl) e0).to fun v H1 _ h => h.pm
theorem pm_lst {l : List Str} (h : EvA ta σ H (l.map V.str)) (hp : ∀ x ∈ l, plS x = true) (hl : l.length ≤ 3) (e0 : ∀ a, H a = none → H0 a = none) : EvX (tLst ta) σ H (Pm K H0) := (od_lst (K := K) (H0 := H0) h (dp_strs l) (by rw [all_plA hp, List.length_map, decide_eq_true hl]; rfl) e0).to fun v H1 _ h => h.pm
theorem pm_nest (e0 : ∀ a, H a = none → H0 a = none) : EvX (tLst (tCons (tLst tNil) tNil)) σ H (Pm K H0) := fun H1 e Q q => by
  refine ⟨Nat.zero_le _, fun a ha => ⟨(by show 1 ≤ sizeLine; decide), fun b hb => ?_⟩⟩
  have nab : a ≠ b := fun z => by rw [← z, upd_same] at hb; cases hb
  have hb' : H1 b = none := by rw [upd_ne nab.symm] at hb; exact hb
  refine q _ _ (fun c o ec => by rw [upd_ne (ne_of_none ec hb'), upd_ne (ne_of_none ec ha)]; exact ec) ⟨.list [.list []], ⟨.dp (.lst (SqL.of upd_same) (.cons (.lst (SqL.of ((upd_ne nab).trans upd_same)) .nil) .nil)) (by decide +kernel), fun ds z => ⟨b, _, rfl, upd_same, Nat.le_of_ble_eq_true rfl, by cases z; exact .cons (.lst (SqL.of ((upd_ne nab).trans upd_same)) .nil) .nil⟩⟩, fun x hx => by cases hx; exact e0 _ (fresh_back e hb')⟩
end
def spElder (K : PySem.W.Frag) : Sp := fun vs H Q _ => ∃ (p c l : Addr) (k : Nat) (n : Str) (ws : List Str), vs = [.ref p, .str n, .ref l] ∧ Pen H p c k ∧ k ≤ 80000 ∧ H l = some (.lst (ws.map V.str)) ∧ l ≠ p ∧ 3 ≤ ws.length ∧ ws.length ≤ 50 ∧ (∀ x ∈ ws, fnS x = true) ∧ fnS n = true ∧ ∀ H' v, Kp p H H' → Pen H' p c (k + 2) → Pm K H v H' → Q v H'
theorem cut3 {ws : List Str} {i : Nat} (h : i + 3 ≤ ws.length) : ∃ a b c, a ∈ ws ∧ b ∈ ws ∧ c ∈ ws ∧ cutV (ws.map V.str) (some (i : Int)) (some ((i : Int) + 3)) = [.str a, .str b, .str c] := by
  have e1 : HT.sIx (ws.map V.str).length 0 (some (i : Int)) = i := by
    rw [HT.sIx_nat, List.length_map]; omega
  have e2 : HT.sIx (ws.map V.str).length (ws.map V.str).length (some ((i : Int) + 3)) = i + 3 := by
    have : ((i : Int) + 3) = ((i + 3 : Nat) : Int) := by omega
    rw [this, HT.sIx_nat, List.length_map]; omega
  refine ⟨ws[i], ws[i + 1], ws[i + 2], List.getElem_mem _, List.getElem_mem _, List.getElem_mem _, ?_⟩
  unfold cutV
  rw [e1, e2, ← List.map_drop, ← List.map_take]
  have e3 : (ws.drop i).take (i + 3 - i) = [ws[i], ws[i + 1], ws[i + 2]] := by
    have : i + 3 - i = 3 := by omega
    rw [this]
    rw [List.drop_eq_getElem_cons (by omega : i < ws.length), List.drop_eq_getElem_cons (by omega : i + 1 < ws.length), List.drop_eq_getElem_cons (by omega : i + 1 + 1 < ws.length)]
    rfl
  rw [e3]
  rfl
section
variable {P : Program} {w : World} {K : PySem.W.Frag} {mg : Str → Option Value} {base : Heap}
theorem ok_elder (T : Txt P K mg) : FnOk P w K mg base CX0 3 T.f_elder T.d_elder P_elder (spElder K) := by
  have G_take := ok_take (P := P) (w := w) (base := base) T
  have G_one_of := ok_one_of (P := P) (w := w) (base := base) T
  refine T.F_elder.ok sc_elder (fun vs H Q E h => ?_) (fun cdv A outer s H vs Q E hr h => ?_)
  · obtain ⟨p, c, l, k, n, ws, rfl, _⟩ := h
    rfl
  · obtain ⟨p, c, l, k, n, ws, rfl, hP, hk, hl, hlp, w3, w50, hw, hn, kont⟩ := h
    refine ⟨_, (pss_cons (ps_set (i := 3) sc_elder.nd rfl (Or.inl rfl) (pe_call G_take (hr.mono (by decide)) (by rfl) T.g_take T.F_take.kp T.B_take .nil pass0 (pa_cons (pv 0) (pa_cons (pe_op op_sub (pe_callB call_len_seq (by rfl) T.b_len (by decide +kernel) (pa_cons (pv 2) pa_nil)) pe_int) pa_nil))))
      (pss_cons (ps_asg (pe_slice sl_list (pv 2) (po_some (pv 3)) (po_some (pe_op op_add (pv 3) pe_int))) (pg_lst rfl (pgs_cons (pg_name (i := 4) sc_elder.nd rfl (Or.inl rfl)) (pgs_cons (pg_name (i := 5) sc_elder.nd rfl (Or.inl rfl)) (pgs_cons (pg_name (i := 6) sc_elder.nd rfl (Or.inl rfl)) pgs_nil)))))
      (pss_cons (ps_set (i := 7) sc_elder.nd rfl (Or.inl rfl) (pe_lst (pa_cons (pe_tup pa_nil) (pa_cons (pe_tup pa_nil) (pa_cons (pe_tup (pa_cons (pv 4) pa_nil)) (pa_cons (pe_lst (pa_cons (pv 5) pa_nil)) (pa_cons (pe_tup (pa_cons (pv 4) (pa_cons (pv 5) pa_nil))) (pa_cons (pe_lst (pa_cons (pv 6) (pa_cons (pv 4) pa_nil))) (pa_cons (pe_tup (pa_cons (pv 4) (pa_cons (pv 4) pa_nil))) (pa_cons (pe_tup (pa_cons (pv 1) pa_nil)) (pa_cons (pe_lst (pa_cons (pv 5) (pa_cons (pv 1) pa_nil))) pa_nil)))))))))))
      (pss_one (ps_ret (pe_call G_one_of hr (by rfl) T.g_one_of T.F_one_of.kp T.B_one_of .nil pass0 (pa_cons (pv 0) (pa_cons (pe_op op_cat (pv 7) (pe_lst (pa_cons (pe_tup (pa_cons (pv 4) (pa_cons (pv 5) (pa_cons (pv 6) pa_nil)))) (pa_cons (pe_tup (pa_cons (pv 4) (pa_cons pe_int pa_nil))) (pa_cons pe_str (pa_cons (pe_lst (pa_cons (pe_lst pa_nil) pa_nil)) pa_nil)))))) pa_nil)))))))), ?_⟩
    refine takeN (n := (ws.length : Int) - 2) rfl (ev_op (ev_is (ev_cb (ea_cons (ev_var rfl) ea_nil) (rc_lenL (K := K) (sq_of hl))) (by rw [List.length_map])) ev_c rv_I0) hP (by omega) (by omega) (by omega) fun H1 d K1 P1 d0 d1 => ?_
    have hl1 := K1 _ _ hlp hl
    obtain ⟨a, b, e, ha, hb, he, ec⟩ := cut3 (ws := ws) (i := d.toNat) (by omega)
    have ed : ((d.toNat : Nat) : Int) = d := by omega
    rw [ed] at ec
    refine (el_sl (K := K) (ev_var rfl) (eo_some (ev_var rfl)) (eo_some (ev_op (ev_var rfl) ev_c rv_I0)) (sq_of hl1) : EvL _ [some (.ref p), some (.str n), some (.ref l), some (.int d), none, none, none, none] H1 _) H1 (Ex.refl H1) _ fun q H2 hq X2 h2 => ?_
    rw [ec] at h2
    refine ⟨q, _, rfl, SqL.of h2, rfl, ⟨_, _, rfl, _, _, rfl, _, _, rfl, rfl, ?_⟩⟩
    have pn := fnS_pl hn
    have pa := fnS_pl (hw a ha)
    have pb := fnS_pl (hw b hb)
    have pe' := fnS_pl (hw e he)
    have e2 : ∀ a, H2 a = none → H a = none := fun a h => Kp.free (Kp.trans K1 (Kp.of X2)) ((P1.mono X2).ne h) h
    refine x_asg (ex_lstD (P := Pm K H) pm_mono (evd_cons pm_mono (pm_tup (l := []) ea_nil (by simp) (by decide) e2) (evd_cons pm_mono (pm_tup (l := []) ea_nil (by simp) (by decide) e2) (evd_cons pm_mono (pm_tup (l := [a]) (ea_cons (ev_var rfl) ea_nil) (by simp [pa]) (by simp) e2) (evd_cons pm_mono (pm_lst (l := [b]) (ea_cons (ev_var rfl) ea_nil) (by simp [pb]) (by simp) e2)
      (evd_cons pm_mono (pm_tup (l := [a, b]) (ea_cons (ev_var rfl) (ea_cons (ev_var rfl) ea_nil)) (by simp [pa, pb]) (by simp) e2) (evd_cons pm_mono (pm_lst (l := [e, a]) (ea_cons (ev_var rfl) (ea_cons (ev_var rfl) ea_nil)) (by simp [pa, pe']) (by simp) e2) (evd_cons pm_mono (pm_tup (l := [a, a]) (ea_cons (ev_var rfl) (ea_cons (ev_var rfl) ea_nil)) (by simp [pa]) (by simp) e2)
      (evd_cons pm_mono (pm_tup (l := [n]) (ea_cons (ev_var rfl) ea_nil) (by simp [pn]) (by simp) e2) (evd_cons pm_mono (pm_lst (l := [b, n]) (ea_cons (ev_var rfl) (ea_cons (ev_var rfl) ea_nil)) (by simp [pb, pn]) (by simp) e2) evd_nil))))))))) (by decide)) fun v H3 X3 h3 => ?_
    have e3 : ∀ a, H3 a = none → H a = none := fun a h => e2 a (fresh_back X3 h)
    refine ⟨_, rfl, (ex_catD (P := Pm K H) pm_mono (EvX.of (ev_var rfl) fun H4 X4 => h3.mono pm_mono X4) (ex_lstD (P := Pm K H) pm_mono (evd_cons pm_mono (pm_tup (l := [a, b, e]) (ea_cons (ev_var rfl) (ea_cons (ev_var rfl) (ea_cons (ev_var rfl) ea_nil))) (by simp [pa, pb, pe']) (by simp) e3) (evd_cons pm_mono ((od_tup (H0 := H) (ea_cons (ev_var rfl) (ea_cons ev_c ea_nil)) (.cons (.str a) (.cons (.int 1) .nil)) ?_ e3).to fun v H4 _ h => h.pm)
      (evd_cons pm_mono (EvX.of ev_c fun H4 X4 => ⟨_, pv_of (by decide +kernel), fun a z => nomatch z⟩) (evd_cons pm_mono (pm_nest e3) evd_nil)))) (by decide)) (by decide) (by decide) : EvX _ _ H3 _) H3 (Ex.refl H3) _ fun u H4 X4 ⟨l', xs, eu, hl', hx, hlen⟩ => ?_⟩
    · have : plA (.str a) = true := pa
      have h1 : plA (.int 1) = true := by decide +kernel
      simp [this, h1]
    subst eu
    have P4 := P1.mono ((X2.trans X3).trans X4)
    obtain ⟨kvs, hp⟩ := P4.here
    refine ⟨p, c, l', k + 1, xs, rfl, P4, by omega, hl', (fun z => by rw [z, hp] at hl'; cases hl'), by omega, by omega, fun H5 y hy K5 P5 => ?_⟩
    exact kont H5 y (Kp.trans K1 (Kp.trans (Kp.of ((X2.trans X3).trans X4)) K5)) P5 ((hx y hy).kp (Pen.off P4) K5)
end
end K01

namespace K01
open PySem L2 Way Evl
section
variable {σ : L2.St} {H : Hp} {D : Ends} {tz : TS} {ta : TA} {g : TG} {tb : TS}
def tGiv (vs : List V) : TA := fun _ H Q => Q vs H
theorem ea_giv {vs : List V} : EvA (tGiv vs) σ H vs := fun H1 _ _ q => q H1 (Ex.refl H1)
theorem for_seq (h : ta σ H fun vs H1 => tSeq (tFor (iRng1 (tGiv vs)) g tb) tz D σ H1) : tSeq (tFor (iRng1 ta) g tb) tz D σ H := h
end
theorem el_catV {σ : L2.St} {H : Hp} {te tb : TE} {xs ys : List V} {p : Addr} (h : Ev te σ H (.ref p)) (hp : H p = some (.lst xs)) (h2 : EvL tb σ H ys) (hl : xs.length + ys.length ≤ 100000) : EvL (tOp rCat te tb) σ H (xs ++ ys) := fun H1 e Q q =>
  h H1 e _ fun H2 e2 => h2 H2 (e.trans e2) _ fun p' H3 hn e3 h3 => ⟨p, p', xs, ys, rfl, rfl, e3 _ _ (e2 _ _ (e _ _ hp)), h3, sz_of hl, fun t ht => q t _ (fresh_back (e2.trans e3) ht) ((e2.trans e3).trans (Ex.new ht)) upd_same⟩
theorem pm_int {K : PySem.W.Frag} {H0 H : Hp} {i : Int} (h : i.natAbs.log2 < 200) : Pm K H0 (.int i) H := ⟨.int i, ⟨.dp (.int i) (by simpa [pl, plA] using h), fun ds z => nomatch z⟩, fun a z => nomatch z⟩
theorem pm_str {K : PySem.W.Frag} {H0 H : Hp} {x : Str} (h : plS x = true) : Pm K H0 (.str x) H := ⟨_, pv_of h, fun a z => nomatch z⟩
theorem log9 {d : Int} (h0 : 0 ≤ d) (h1 : d < 1000000000) : d.natAbs.log2 < 200 := by
  by_cases z : d.natAbs = 0
  · rw [z]; decide
  · have := (Nat.log2_lt (n := d.natAbs) (k := 30) z).mpr (by omega)
    omega
theorem mem_set {α : Type} {l : List α} {i : Nat} {x y : α} (h : y ∈ l.set i x) : y ∈ l ∨ y = x := List.mem_or_eq_of_mem_set h
/-- the lists that fields are drawn from -/
structure Src (H : Hp) (p ln lp : Addr) (names pool : List Str) : Prop where
  hn : H ln = some (.lst (names.map V.str))
  np : ln ≠ p
  n1 : names.length ≤ 20
  kn : ∀ x ∈ names, knS x = true
  hp : H lp = some (.lst (pool.map V.str))
  pp : lp ≠ p
  p1 : 3 ≤ pool.length ∧ pool.length ≤ 50
  fn : ∀ x ∈ pool, fnS x = true
theorem Src.kp {H H' : Hp} {p ln lp : Addr} {names pool : List Str} (h : Src H p ln lp names pool) (k : Kp p H H') : Src H' p ln lp names pool := ⟨k _ _ h.np h.hn, h.np, h.n1, h.kn, k _ _ h.pp h.hp, h.pp, h.p1, h.fn⟩
def spFP (K : PySem.W.Frag) : Sp := fun vs H Q _ => ∃ (p c ln lp : Addr) (k : Nat) (s : Int) (names pool : List Str), vs = [.ref p, .ref ln, .ref lp, .int s] ∧ Pen H p c k ∧ k ≤ 70000 ∧ Src H p ln lp names pool ∧ 0 ≤ s ∧ s ≤ 3 ∧ ∀ l H' vs, H l = none → Kp p H H' → Pen H' p c (k + 13) → H' l = some (.lst vs) → vs.length = 5 → (∀ v ∈ vs, Pm K H v H') → Q (.ref l) H'
section
variable {P : Program} {w : World} {K : PySem.W.Frag} {mg : Str → Option Value} {base : Heap}
theorem ok_field_parts (T : Txt P K mg) : FnOk P w K mg base CX0 4 T.f_field_parts T.d_field_parts P_field_parts (spFP K) := by
  have G_one_of := ok_one_of (P := P) (w := w) (base := base) T
  have G_elder := ok_elder (P := P) (w := w) (base := base) T
  have G_odd := ok_odd (P := P) (w := w) (base := base) T
  have G_take := ok_take (P := P) (w := w) (base := base) T
  refine T.F_field_parts.ok sc_field_parts (fun vs H Q E h => ?_) (fun cdv A outer s H vs Q E hr h => ?_)
  · obtain ⟨p, c, ln, lp, k, s, names, pool, rfl, _⟩ := h
    rfl
  · obtain ⟨p, c, ln, lp, k, s, names, pool, rfl, hP, hk, hS, s0, s3, kont⟩ := h
    refine ⟨_, (pss_cons (ps_set (i := 4) sc_field_parts.nd rfl (Or.inl rfl) (pe_call G_one_of (hr.mono (by decide)) (by rfl) T.g_one_of T.F_one_of.kp T.B_one_of .nil pass0 (pa_cons (pv 0) (pa_cons (pv 2) pa_nil))))
      (pss_cons (ps_set (i := 5) sc_field_parts.nd rfl (Or.inl rfl) (pe_call G_one_of (hr.mono (by decide)) (by rfl) T.g_one_of T.F_one_of.kp T.B_one_of .nil pass0 (pa_cons (pv 0) (pa_cons (pe_lst (pa_cons pe_str (pa_cons pe_str (pa_cons pe_str (pa_cons pe_str pa_nil))))) pa_nil))))
      (pss_cons (ps_set (i := 6) sc_field_parts.nd rfl (Or.inl rfl) pe_non)
      (pss_cons (ps_set (i := 7) sc_field_parts.nd rfl (Or.inl rfl) pe_int)
      (pss_cut (ps_if (pt_cmpR op_eq (pv 5) pe_str (nomark _)) (pss_one (ps_set (i := 7) sc_field_parts.nd rfl (Or.inl rfl) (pe_call G_one_of (hr.mono (by decide)) (by rfl) T.g_one_of T.F_one_of.kp T.B_one_of .nil pass0 (pa_cons (pv 0) (pa_cons (pe_lst (pa_cons pe_int (pa_cons pe_int (pa_cons (pe_call G_take (hr.mono (by decide)) (by rfl) T.g_take T.F_take.kp T.B_take .nil pass0 (pa_cons (pv 0) (pa_cons (pe_op op_pow pe_int pe_int) pa_nil))) (pa_cons (pe_op op_sub (pe_op op_pow pe_int pe_int) pe_int) (pa_cons (pe_op op_sub pe_int (pe_op op_pow pe_int pe_int)) (pa_cons (pe_op op_pow pe_int pe_int) (pa_cons (pe_un un_neg (pe_op op_pow pe_int pe_int)) pa_nil)))))))) pa_nil))))) (pss_one (ps_set (i := 6) sc_field_parts.nd rfl (Or.inl rfl) (pe_call G_one_of (hr.mono (by decide)) (by rfl) T.g_one_of T.F_one_of.kp T.B_one_of .nil pass0 (pa_cons (pv 0) (pa_cons (pe_op op_cat (pv 1) (pe_lst (pa_cons pe_str pa_nil))) pa_nil))))))
      (pss_cons (ps_set (i := 8) sc_field_parts.nd rfl (Or.inl rfl) (pe_lst (pa_cons (pv 4) (pa_cons (pv 5) (pa_cons (pv 6) (pa_cons (pv 7) (pa_cons (pe_call G_elder hr (by rfl) T.g_elder T.F_elder.kp T.B_elder .nil pass0 (pa_cons (pv 0) (pa_cons (pv 4) (pa_cons (pv 2) pa_nil)))) pa_nil)))))))
      (pss_cons (ps_for PassesOwn.never rfl (pi_range1 (by rfl) T.b_range (pa_cons (pe_call G_one_of (hr.mono (by decide)) (by rfl) T.g_one_of T.F_one_of.kp T.B_one_of .nil pass0 (pa_cons (pv 0) (pa_cons (pe_lst (pa_cons pe_int (pa_cons pe_int (pa_cons pe_int (pa_cons (pv 3) pa_nil))))) pa_nil))) pa_nil)) (pg_name (i := 9) sc_field_parts.nd rfl (Or.inl rfl)) (pss_one (ps_asg (pe_call G_odd hr (by rfl) T.g_odd T.F_odd.kp T.B_odd .nil pass0 (pa_cons (pv 0) pa_nil)) (pg_sub (pv 8) (pe_call G_take (hr.mono (by decide)) (by rfl) T.g_take T.F_take.kp T.B_take .nil pass0 (pa_cons (pv 0) (pa_cons pe_int pa_nil))) set_list))))
      (pss_one (ps_ret (pv 8)))))))))), ?_⟩
    have h13 := hS.p1
    have h14 := hS.n1
    refine q_any ⟨_, rfl, _, rfl, p, c, lp, k, _, rfl, hP, by omega, hS.hp, hS.pp, by rw [List.length_map]; omega, by rw [List.length_map]; omega, fun H1 v hv K1 P1 => ?_⟩
    obtain ⟨n, hn, rfl⟩ := List.mem_map.mp hv
    have fn := hS.fn n hn
    refine q_any ⟨_, rfl, (el_lst (vs := [.str "mark", .str "link", .str "list", .str "mark"]) (ea_cons ev_c (ea_cons ev_c (ea_cons ev_c (ea_cons ev_c ea_nil)))) (Nat.le_of_ble_eq_true rfl) : EvL _ _ H1 _) H1 (Ex.refl H1) _ fun l2 H2 hl2 X2 h2 => ?_⟩
    refine ⟨p, c, l2, k + 1, _, rfl, P1.mono X2, by omega, h2, P1.ne hl2, Nat.le_of_ble_eq_true rfl, Nat.le_of_ble_eq_true rfl, fun H3 v hv K3 P3 => ?_⟩
    have K03 : Kp p H H3 := Kp.trans K1 (Kp.trans (Kp.of X2) K3)
    obtain ⟨m, rfl, pm⟩ : ∃ m, v = .str m ∧ plS m = true := by
      simp only [List.mem_cons, List.not_mem_nil, or_false] at hv
      rcases hv with rfl | rfl | rfl | rfl
      · exact ⟨_, rfl, by decide +kernel⟩
      · exact ⟨_, rfl, by decide +kernel⟩
      · exact ⟨_, rfl, by decide +kernel⟩
      · exact ⟨_, rfl, by decide +kernel⟩
    refine q_asg ev_c fun H4 X4 => ?_
    refine q_asg ev_c fun H5 X5 => ?_
    have X45 := X4.trans X5
    have K05 : Kp p H H5 := Kp.trans K03 (Kp.of X45)
    have P5 := P3.mono X45
    have S5 := hS.kp K05
    refine q_cut (M := fun σ' H' => ∃ t df, σ' = [some (.ref p), some (.ref ln), some (.ref lp), some (.int s), some (.str n), some (.str m), some t, some df, none, none] ∧ Pm K H t H' ∧ Pm K H df H' ∧ Kp p H H' ∧ Pen H' p c (k + 4)) ?_ ?_
    · refine s_if (et_test (ev_op (ev_var rfl) ev_c (rv_eq rfl))) (fun q H6 X6 => ?_) (fun q H6 X6 => ?_)
      · refine ⟨_, rfl, ?_⟩
        refine takeN (n := 1000000000) rfl (ev_is (ev_op ev_c ev_c (rv_I ⟨by decide, by decide, by decide⟩)) rfl) (P5.mono X6) (by omega) (by decide) (by decide) fun H7 d K7 P7 d0 d1 => ?_
        have pw : ∀ (H : Hp) (σ : L2.St), Ev (tOp (rI CPow fun i j => .int (i ^ j.toNat)) (tC (.int 10)) (tC (.int 12))) σ H (.int 1000000000000) := fun H σ => ev_is (ev_op ev_c ev_c (rv_I ⟨by decide, by decide, by decide⟩)) rfl
        refine (ea_cons (x := .int 999999999999) (ev_is (ev_op (pw _ _) ev_c rv_I0) rfl) (ea_cons (x := .int (-999999999999)) (ev_is (ev_op ev_c (pw _ _) rv_I0) rfl) (ea_cons (pw _ _) (ea_cons (x := .int (-1000000000000)) (ev_is (ev_un (pw _ _) ru_neg) rfl) ea_nil))) : EvA _ _ H7 _) H7 (Ex.refl H7) _ fun H8 X8 => ⟨Nat.le_of_ble_eq_true rfl, fun l3 hl3 => ?_⟩
        have P8 := P7.mono X8
        refine ⟨p, c, l3, k + 3, _, rfl, P8.upd (P8.ne hl3) (P8.neC hl3), by omega, upd_same, P8.ne hl3, Nat.le_of_ble_eq_true rfl, Nat.le_of_ble_eq_true rfl, fun H9 v hv K9 P9 => ?_⟩
        refine ⟨.non, v, rfl, ⟨.none, ⟨.dp .non rfl, fun ds z => nomatch z⟩, fun a z => nomatch z⟩, ?_, Kp.trans K05 (Kp.trans (Kp.of X6) (Kp.trans K7 (Kp.trans (Kp.of X8) (Kp.trans (Kp.new (Kp.refl _ _) hl3) K9)))), P9⟩
        simp only [List.mem_cons, List.not_mem_nil, or_false] at hv
        rcases hv with rfl | rfl | rfl | rfl | rfl | rfl | rfl
        · exact pm_int (by decide)
        · exact pm_int (by decide)
        · exact pm_int (log9 d0 d1)
        · exact pm_int (by decide +kernel)
        · exact pm_int (by decide +kernel)
        · exact pm_int (by decide +kernel)
        · exact pm_int (by decide +kernel)
      · have S6 := S5.kp (Kp.of X6)
        refine ⟨_, rfl, (el_catV (ev_var rfl) S6.hn (el_lst (vs := [.str "any"]) (ea_cons ev_c ea_nil) (Nat.le_of_ble_eq_true rfl)) (by rw [List.length_map]; show names.length + 1 ≤ _; omega) : EvL _ _ H6 _) H6 (Ex.refl H6) _ fun l4 H8 hl4 X8 h8 => ?_⟩
        have P8 := (P5.mono X6).mono X8
        refine ⟨p, c, l4, k + 2, _, rfl, P8, by omega, h8, (P5.mono X6).ne hl4, by rw [List.length_append]; simp, by rw [List.length_append, List.length_map]; show names.length + 1 ≤ _; omega, fun H9 v hv K9 P9 => ?_⟩
        refine ⟨v, .int 0, rfl, ?_, pm_int (by decide), Kp.trans K05 (Kp.trans (Kp.of (X6.trans X8)) K9), P9.le (by omega)⟩
        rcases List.mem_append.mp hv with hv | hv
        · obtain ⟨y, hy, rfl⟩ := List.mem_map.mp hv
          exact pm_str (knS_pl (hS.kn y hy))
        · rw [List.mem_singleton.mp hv]
          exact pm_str (by decide +kernel)
    · rintro σ' H6 ⟨t, df, rfl, pt', pdf, K6, P6⟩
      have S6 := hS.kp K6
      refine q_any ⟨_, rfl, _, rfl, _, rfl, _, rfl, _, rfl, _, rfl, _, rfl, p, c, lp, k + 4, n, pool, rfl, P6, by omega, S6.hp, S6.pp, h13.1, h13.2, S6.fn, fn, fun H7 we K7 P7 pwe => ⟨Nat.le_of_ble_eq_true rfl, fun l hl => ?_⟩⟩
      have off6 := Pen.off P6
      have P7' := P7.upd (P7.ne hl) (P7.neC hl) (o := .lst [.str n, .str m, t, df, we])
      have X8 : Ex H7 (upd H7 l (.lst [.str n, .str m, t, df, we])) := Ex.new hl
      have K8 : Kp p H (upd H7 l (.lst [.str n, .str m, t, df, we])) := Kp.trans K6 (Kp.trans K7 (Kp.of X8))
      have nlp : l ≠ p := P7.ne hl
      have nl : H l = none := Kp.free (Kp.trans K6 K7) nlp hl
      have pv0 : ∀ v ∈ [V.str n, V.str m, t, df, we], Pm K H v (upd H7 l (.lst [.str n, .str m, t, df, we])) := fun v hv => by
        refine pm_mono _ _ _ X8 ?_
        simp only [List.mem_cons, List.not_mem_nil, or_false] at hv
        rcases hv with rfl | rfl | rfl | rfl | rfl
        · exact pm_str (fnS_pl fn)
        · exact pm_str pm
        · exact pt'.kp off6 K7
        · exact pdf.kp off6 K7
        · exact pwe.le fun a h => Kp.free K6 (P6.ne h) h
      revert pv0 K8 P7'
      have hh : (upd H7 l (.lst [.str n, .str m, t, df, we])) l = some (.lst [.str n, .str m, t, df, we]) := upd_same
      revert hh
      have hvl : ([V.str n, V.str m, t, df, we]).length = 5 := rfl
      revert hvl
      generalize upd H7 l (.lst [.str n, .str m, t, df, we]) = H8
      generalize ([V.str n, V.str m, t, df, we]) = vs0
      intro hvl hh P8 K8 pv0
      refine for_seq ⟨_, rfl, (el_lst (vs := [.int 0, .int 0, .int 1, .int s]) (ea_cons ev_c (ea_cons ev_c (ea_cons ev_c (ea_cons (ev_var rfl) ea_nil)))) (Nat.le_of_ble_eq_true rfl) : EvL _ _ H8 _) H8 (Ex.refl H8) _ fun l3 H9 hl3 X9 h9 => ?_⟩
      have P9 := P8.mono X9
      refine ⟨p, c, l3, k + 6, _, rfl, P9, by omega, h9, P8.ne hl3, Nat.le_of_ble_eq_true rfl, Nat.le_of_ble_eq_true rfl, fun H10 v hv K10 P10 => ?_⟩
      obtain ⟨j, rfl, j0, j3⟩ : ∃ j : Int, v = .int j ∧ 0 ≤ j ∧ j ≤ 3 := by
        simp only [List.mem_cons, List.not_mem_nil, or_false] at hv
        rcases hv with rfl | rfl | rfl | rfl
        · exact ⟨0, rfl, by decide, by decide⟩
        · exact ⟨0, rfl, by decide, by decide⟩
        · exact ⟨1, rfl, by decide, by decide⟩
        · exact ⟨s, rfl, s0, s3⟩
      have K810 : Kp p H8 H10 := Kp.trans (Kp.of X9) K10
      refine q_forR1 (n := j) ea_giv (by omega) (fun i σ H' => ∃ vs v9, σ = [some (.ref p), some (.ref ln), some (.ref lp), some (.int s), some (.str n), some (.str m), some t, some df, some (.ref l), v9] ∧ H' l = some (.lst vs) ∧ vs.length = 5 ∧ (∀ v ∈ vs, Pm K H v H') ∧ Kp p H H' ∧ Pen H' p c (k + 7 + 2 * i))
        (fun H11 X11 => ⟨vs0, none, rfl, X11 _ _ (K810 _ _ nlp hh), hvl, fun v hv => pm_mono _ _ _ X11 ((pv0 v hv).kp (Pen.off P8) K810), Kp.trans K8 (Kp.trans K810 (Kp.of X11)), P10.mono X11⟩) ?_ ?_
      · rintro i σ' H' hi ⟨vs, v9, rfl, h1, h2, h3, h4, h5⟩
        refine ⟨_, rfl, p, c, k + 7 + 2 * i, rfl, h5, by omega, fun H11 y K11 P11 od => ⟨_, rfl, takeN (n := 5) rfl ev_c P11 (by omega) (by decide) (by decide) fun H12 d K12 P12 d0 d1 => ?_⟩⟩
        have K112 := Kp.trans K11 K12
        have hl12 := K112 _ _ nlp h1
        refine ⟨l, vs, d, d.toNat, rfl, rfl, hl12, by
          have := ixN_nat (n := vs.length) (j := d.toNat) (by omega)
          rw [show ((d.toNat : Nat) : Int) = d by omega] at this
          exact this, ?_⟩
        have K13 : Kp l H12 (upd H12 l (.lst (vs.set d.toNat y))) := Kp.set (Kp.refl _ _)
        have off12 : Off H12 l := off_lst hl12 (by omega)
        refine ⟨vs.set d.toNat y, _, rfl, upd_same, by rw [List.length_set, h2], fun v hv => ?_, Kp.new (Kp.trans h4 K112) nl, ?_⟩
        · refine Pm.kp off12 K13 ?_
          rcases mem_set hv with hv | rfl
          · exact ((h3 v hv).kp (Pen.off h5) K112)
          · exact (od.kp (Pen.off P11) K12).pm.le fun a h => Kp.free h4 (h5.ne h) h
        · exact (Pen.upd P12 nlp (hP.neC nl)).le (by omega)
      · rintro σ' H' ⟨vs, v9, rfl, h1, h2, h3, h4, h5⟩
        exact s_ret (ev_var rfl) fun H11 X11 => kont l H11 vs nl (Kp.trans h4 (Kp.of X11)) ((h5.mono X11).le (by omega)) (X11 _ _ h1) h2 fun v hv => pm_mono _ _ _ X11 (h3 v hv)
end
end K01

namespace K01
open PySem L2 Way Evl
/-! data that fit -/
theorem sw_bl {b : Bool} {m : Nat} : Shw 0 m (.bool b) := ⟨by simp [PyData.showable], by cases b <;> decide +kernel, by simp [PyData.weight], by simp [PyData.depth], by simp [PyData.hasDict]⟩
theorem sw_atom {d : PyData} {m : Nat} (h : plA d = true) : Shw 200 m d := by
  cases d with
  | none => exact sw_non.le (by decide) (Nat.le_refl _)
  | bool b => exact sw_bl.le (by decide) (Nat.le_refl _)
  | int i => exact sw_int (by simpa [plA] using h)
  | str x =>
    have h' : plS x = true := h
    simp only [plS, Bool.and_eq_true, decide_eq_true_eq] at h'
    refine (sw_str (List.all_eq_true.mpr fun c hc => ?_)).le (by omega) (Nat.le_refl _)
    have := (plC_bnd (List.all_eq_true.mp h'.1 c hc)).1
    exact decide_eq_true (by omega)
  | list _ => simp [plA] at h
  | tuple _ => simp [plA] at h
  | dict _ => simp [plA] at h
theorem sw_E {d : PyData} (h : plE d = true) : Shw 200 2 d := by
  cases d with
  | list ds => cases ds with
    | nil => exact (sw_lst (m := 1) sw_nil).le (by decide) (by decide)
    | cons a b => simp [plE, plA] at h
  | tuple _ => simp [plE, plA] at h
  | _ => exact sw_atom h
theorem sw_pl {d : PyData} (h : pl d = true) : Shw 700 3 d := by
  cases d with
  | list ds =>
    simp only [pl, Bool.and_eq_true, decide_eq_true_eq] at h
    exact (sw_lst (sw_all fun d hd => sw_E (List.all_eq_true.mp h.2 d hd))).le (by omega) (Nat.le_refl _)
  | tuple ds =>
    simp only [pl, Bool.and_eq_true, decide_eq_true_eq] at h
    exact (sw_tup (sw_all fun d hd => sw_E (List.all_eq_true.mp h.2 d hd))).le (by omega) (Nat.le_refl _)
  | none => exact (sw_atom (m := 3) (d := .none) h).le (by decide) (Nat.le_refl _)
  | bool b => exact (sw_atom (m := 3) (d := .bool b) h).le (by decide) (Nat.le_refl _)
  | int i => exact (sw_atom (m := 3) (d := .int i) h).le (by decide) (Nat.le_refl _)
  | str x => exact (sw_atom (m := 3) (d := .str x) h).le (by decide) (Nat.le_refl _)
  | dict k => simp [pl, plA] at h
theorem Shw.fit {n m : Nat} {d : PyData} (h : Shw n m d) (hn : n ≤ 50000 := by decide) (hm : m ≤ 60 := by decide) : Fit d := ⟨h.sh, Nat.le_trans h.dp hm, h.fits hn⟩
theorem fit_emp : Fit (.dict []) := ⟨by decide +kernel, by decide +kernel, by decide +kernel⟩
theorem pv_fit {K : PySem.W.Frag} {H : Hp} {v : V} {d : PyData} (p : PV K H v d) : Fit d := by
  cases p with
  | dp h p => exact Shw.fit (sw_pl p)
  | emp h => exact fit_emp
theorem pv_shn {K : PySem.W.Frag} {H : Hp} {v : V} {d : PyData} (p : PV K H v d) : Shn K H v d := by
  cases p with
  | dp h p => exact .dp h (sw_pl p).nd
  | emp h => exact .emp h
theorem pv_pl {K : PySem.W.Frag} {H : Hp} {v : V} {d : PyData} (p : PV K H v d) : pl d = true ∨ d = .dict [] := by
  cases p with
  | dp h p => exact .inl p
  | emp h => exact .inr rfl
mutual
theorem dp_mono {K : PySem.W.Frag} {H H' : Hp} (e : Ex H H') : ∀ (d : PyData) (v : V), Dp K H v d → Dp K H' v d
  | .none, _, h => by cases h; exact .non
  | .bool b, _, h => by cases h; exact .bl b
  | .int i, _, h => by cases h; exact .int i
  | .str x, _, h => by cases h; exact .str x
  | .list ds, _, h => by
    cases h with
    | lst h1 h2 => exact .lst (ex_l e h1) (dpA_mono e ds _ h2)
  | .tuple ds, _, h => by
    cases h with
    | tup h1 h2 => exact .tup (ex_t e h1) (dpA_mono e ds _ h2)
  | .dict _, _, h => by cases h
theorem dpA_mono {K : PySem.W.Frag} {H H' : Hp} (e : Ex H H') : ∀ (ds : List PyData) (vs : List V), DpAll K H vs ds → DpAll K H' vs ds
  | [], _, h => by cases h; exact .nil
  | d :: ds, _, h => by
    cases h with
    | cons a r => exact .cons (dp_mono e d _ a) (dpA_mono e ds _ r)
end
theorem ev_same {K : PySem.W.Frag} {H : Hp} {σ : L2.St} {tu tv : TE} {u v : V} {d e : PyData} {E : XK} (hu : Ev tu σ H u) (hv : Ev tv σ H v) (pu : ∀ H1, Ex H H1 → Shn K H1 u d) (pv' : ∀ H1, Ex H H1 → Shn K H1 v e) (fd : Fit d) (fe : Fit e) : Ev (tCall (spSame K) [] E (tCons tu (tCons tv tNil))) σ H (.bl (decide (d.shown = e.shown))) :=
  ev_call (ea_cons hu (ea_cons hv ea_nil)) fun H1 x Q q E => ⟨u, v, d, e, rfl, fun H2 x2 => pu H2 (x.trans x2), fun H2 x2 => pv' H2 (x.trans x2), fd, fe, fun H2 e2 => q H2 e2⟩
def spFR (K : PySem.W.Frag) : Sp := fun vs H Q _ => ∃ (l : Addr) (v0 v1 v2 v3 v4 : V) (d0 d1 d2 d3 d4 : PyData), vs = [.ref l] ∧ H l = some (.lst [v0, v1, v2, v3, v4]) ∧ PV K H v0 d0 ∧ PV K H v1 d1 ∧ PV K H v2 d2 ∧ PV K H v3 d3 ∧ PV K H v4 d4 ∧ ∀ H', Ex H H' → Q (.bl (fFR d0 d1 d2 d3 d4)) H'
theorem elA_flt (n : Str) (ds : List PyData) : elA n ds = !decide ((0 : Int) < ((ds.filter fun d => !fFN d || !neN n d).length : Int)) := by
  unfold elA
  induction ds with
  | nil => rfl
  | cons d r ih =>
    rw [List.map_cons, List.all_cons, ih, List.filter_cons]
    cases h1 : fFN d <;> cases h2 : neN n d <;> simp <;> omega
section
variable {P : Program} {w : World} {K : PySem.W.Frag} {mg : Str → Option Value} {base : Heap}
theorem ok_elder_right (T : Txt P K mg) : FnOk P w K mg base CX0 3 T.f_elder_right T.d_elder_right P_elder_right (spEl K) := by
  have G_l_is_field_name := ok_l_is_field_name (P := P) (w := w) (base := base) T
  refine T.F_elder_right.ok sc_elder_right (fun vs H Q E h => ?_) (fun cdv A outer s H vs Q E hr h => ?_)
  · obtain ⟨n, v, d, rfl, _⟩ := h
    rfl
  · obtain ⟨n, v, d, rfl, pq, kont⟩ := h
    refine ⟨_, (pss_cons (ps_if (PW.pt (pw_or (pt_not (pt_val (pe_callB call_isiT (by rfl) T.b_isinstance (by decide +kernel) (pa_cons (pv 1) (pa_cons (pe_tup (pa_cons (pe_bltn (v := .ty "list") (by rfl) T.b_list (by decide +kernel) rfl) (pa_cons (pe_bltn (v := .ty "tuple") (by rfl) T.b_tuple (by decide +kernel) rfl) pa_nil))) pa_nil))))) (pw_or1 (pt_cmpR op_gt (pe_callB call_len_seq (by rfl) T.b_len (by decide +kernel) (pa_cons (pv 1) pa_nil)) pe_int (nomark _))))) (pss_one (ps_ret pe_bl)) pss_nil)
      (pss_cons (ps_if (pt_cmpR op_gt (pe_callB call_len_seq (by rfl) T.b_len (by decide +kernel) (pa_cons (pe_lc (own := [("_law_one", 2)]) (g := gName 2) (by rfl) sc_elder_right.nd (Way.pi_sq (pv 1)) (blkOk_by (own := [("_law_one", 2)]) (N := N_elder_right) (sc := defScope s_elder_right) (by decide +kernel)) (fun _ _ _ _ _ => (pg_name (i := 2) sc_elder_right.nd rfl (Or.inl rfl))) (fun _ _ _ _ _ => (pts_one (PW.pt (pw_or (pt_not (pt_val (pe_call G_l_is_field_name hr (by rfl) T.g_l_is_field_name T.F_l_is_field_name.kp T.B_l_is_field_name .nil pass0 (pa_cons (pv 2) pa_nil)))) (pw_or1 (pt_cmpR op_eq (pv 2) (pv 0) (nomark _))))))) (fun _ _ _ _ _ => (pv 2))) pa_nil)) pe_int (nomark _)) (pss_one (ps_ret pe_bl)) pss_nil)
      (pss_one (ps_ret (pe_or (pe_cmpR op_lt (pe_callB call_len_seq (by rfl) T.b_len (by decide +kernel) (pa_cons (pv 1) pa_nil)) pe_int (nomark _)) (pe_one (pe_cmpR op_ne (pe_ix ix_seq (pv 1) pe_int (fun _ _ => rfl)) (pe_ix ix_seq (pv 1) pe_int (fun _ _ => rfl)) (nomark _)))))))), ?_⟩
    cases hs : isSq d with
    | false =>
      refine q_when (b := true) (et_is (et_or (a := true) (b := true) (et_not (a := false) (et_B (ev_is (ev_isSq (ev_var rfl) pq) (by rw [hs])))) fun q => nomatch q) rfl) (fun _ H1 X1 => ?_) fun q => nomatch q
      refine s_ret (v := .bl (fEL n d)) (ev_is ev_c ?_) fun H2 X2 => kont H2 (X1.trans X2)
      simp [fEL, isSq_no hs]
    | true =>
      obtain ⟨ds, hd⟩ := isSq_seq hs
      obtain ⟨a, xs, rfl, sq, dpa, pa, hl⟩ := pv_seq pq hd
      have px := ev_all' dpa pa
      have hlen : xs.length = ds.length := dpAll_len dpa
      have fe : fEL n d = elds n ds := by simp [fEL, hd]
      rw [fe] at kont
      have elen : ∀ H1, Ex H H1 → Ev (tCB (rLenS K) (tCons (tVar 1) tNil)) [some (.str n), some (.ref a), none] H1 (.int (ds.length : Int)) := fun H1 X1 => ev_is (ev_cb (ea_cons (ev_var rfl) ea_nil) fun H2 X2 _ q => ⟨a, xs, rfl, sq.mono (X1.trans X2), q H2 (Ex.refl H2)⟩) (by rw [hlen])
      refine q_when (et_or (et_not (et_B (ev_is (ev_isSq (ev_var rfl) pq) (by rw [hs])))) fun _ => et_test (ev_op (elen H (Ex.refl H)) ev_c rv_I0)) (fun q H1 X1 => ?_) (fun q H1 X1 => ?_)
      · refine s_ret (v := .bl (elds n ds)) (ev_is ev_c ?_) fun H2 X2 => kont H2 (X1.trans X2)
        rw [elds_3 n (by have : (2 : Int) < (ds.length : Int) := by simpa using q
                         omega)]
      · have h2 : ds.length ≤ 2 := by
          have : ¬ (2 : Int) < (ds.length : Int) := by simpa using q
          omega
        rw [elds_eq n h2] at kont
        refine q_when (b := !elA n ds) (et_is (et_test (ev_op (ev_lenFltQ (K := K) (P := EV K) (S := ds) (g := fun d => !fFN d || !neN n d) (ev_var rfl) (sq.mono X1) (Paired.mapP px fun x d h => EV_mono h X1) (by omega) (by show 2 < 3; decide) (fun _ => rfl) fun x d H2 X2 hd hx => ?_) ev_c rv_I0)) (by rw [elA_flt, Bool.not_not])) (fun q1 H2 X2 => ?_) (fun q1 H2 X2 => ?_)
        · have pe := hx.pv.mono X2
          refine et_or (et_not (et_B (ev_b1 (ev_var rfl) pe))) fun hf => ?_
          have hf' : fFN d = true := by simpa using hf
          obtain ⟨y, rfl⟩ := fFN_str hf'
          obtain ⟨rfl, _⟩ := pv_str pe
          exact et_is (et_test (ev_op (ev_var rfl) (ev_var rfl) (rv_eq rfl))) (by simp [neN])
        · refine s_ret (v := .bl (elA n ds && apart ds)) (ev_is ev_c ?_) fun H3 X3 => kont H3 ((X1.trans X2).trans X3)
          have q1' : elA n ds = false := by simpa using q1
          rw [q1']; rfl
        · have q1' : elA n ds = true := by simpa using q1
          rw [q1', Bool.true_and] at kont
          have X := X1.trans X2
          refine s_ret (v := .bl (apart ds)) (ev_last (sq.mono X) (dpAll_keep (.of X) pa dpa) h2 (fun d hd => ?_) rfl (elen H2 X)) fun H3 X3 => kont H3 (X.trans X3)
          have := List.all_eq_true.mp q1' _ (List.mem_map.mpr ⟨d, hd, rfl⟩)
          simp only [id, Bool.and_eq_true] at this
          exact fFN_str this.1
theorem ok_field_right (T : Txt P K mg) : FnG P w K mg base CX0 4 T.f_field_right T.d_field_right P_field_right (spFR K) := by
  have G_l_is_field_name := ok_l_is_field_name (P := P) (w := w) (base := base) T
  have G_l_is_integer := ok_l_is_integer (P := P) (w := w) (base := base) T
  have G_elder_right := ok_elder_right (P := P) (w := w) (base := base) T
  have G_l_is_kind_name := ok_l_is_kind_name (P := P) (w := w) (base := base) T
  have G_same := ok_same (P := P) (w := w) (base := base) T
  refine okG T.F_field_right sc_field_right (fun vs H Q E h => ?_) (fun cdv A outer s H vs Q E hgd hr h => ?_)
  · obtain ⟨l, v0, v1, v2, v3, v4, d0, d1, d2, d3, d4, rfl, _⟩ := h
    rfl
  · obtain ⟨l, v0, v1, v2, v3, v4, d0, d1, d2, d3, d4, rfl, hl, p0, p1, p2, p3, p4, kont⟩ := h
    refine ⟨_, (pss_cons (ps_asg (pv 0) (pg_lst rfl (pgs_cons (pg_name (i := 1) sc_field_right.nd rfl (Or.inl rfl)) (pgs_cons (pg_name (i := 2) sc_field_right.nd rfl (Or.inl rfl)) (pgs_cons (pg_name (i := 3) sc_field_right.nd rfl (Or.inl rfl)) (pgs_cons (pg_name (i := 4) sc_field_right.nd rfl (Or.inl rfl)) (pgs_cons (pg_name (i := 5) sc_field_right.nd rfl (Or.inl rfl)) pgs_nil)))))))
      (pss_cons (ps_if (PW.pt (pw_or (pt_not (pt_val (pe_call G_l_is_field_name (hr.mono (by decide)) (by rfl) T.g_l_is_field_name T.F_l_is_field_name.kp T.B_l_is_field_name .nil pass0 (pa_cons (pv 1) pa_nil)))) (pw_or (pt_not (pt_val (pe_call G_l_is_integer (hr.mono (by decide)) (by rfl) T.g_l_is_integer T.F_l_is_integer.kp T.B_l_is_integer .nil pass0 (pa_cons (pv 4) pa_nil)))) (pw_or1 (pt_not (pt_val (pe_call G_elder_right hr (by rfl) T.g_elder_right T.F_elder_right.kp T.B_elder_right .nil pass0 (pa_cons (pv 1) (pa_cons (pv 5) pa_nil))))))))) (pss_one (ps_ret pe_bl)) pss_nil)
      (pss_cons (ps_if (PW.pt (pw_or (pt_not (pt_val (pe_callB call_isi (by rfl) T.b_isinstance (by decide +kernel) (pa_cons (pv 2) (pa_cons (pe_bltn (v := .ty "str") (by rfl) T.b_str (by decide +kernel) rfl) pa_nil))))) (pw_or1 (pt_cmpR op_notIn_seq (pv 2) (pe_lst (pa_cons pe_str (pa_cons pe_str (pa_cons pe_str pa_nil)))) (by rfl))))) (pss_one (ps_ret pe_bl)) pss_nil)
      (pss_cons (ps_if (pt_cmpR op_eq (pv 2) pe_str (nomark _)) (pss_one (ps_ret (pe_and (pe_cmpR op_isN (pv 3) pe_non (nomark _)) (pe_one (pe_chain op_lt op_lt (pe_un un_neg (pe_op op_pow pe_int pe_int)) (pv 4) (pe_op op_pow pe_int pe_int)))))) pss_nil)
      (pss_one (ps_ret (pe_and (pe_cmpR op_eq (pv 4) pe_int (nomark _)) (pe_one (pe_or (pe_call G_l_is_kind_name (hr.mono (by decide)) (by rfl) T.g_l_is_kind_name T.F_l_is_kind_name.kp T.B_l_is_kind_name .nil pass0 (pa_cons (pv 3) pa_nil)) (pe_one (Way.pe_callG G_same hgd (hr.mono (by decide)) (by rfl) T.g_same T.F_same.kp T.B_same .nil pass0 (pa_cons (pv 3) (pa_cons pe_str pa_nil))))))))))))), ?_⟩
    refine ⟨_, rfl, ⟨l, _, rfl, SqL.of hl, rfl, ⟨_, _, rfl, _, _, rfl, _, _, rfl, _, _, rfl, _, _, rfl, rfl, ?_⟩⟩⟩
    cases hn : fFN d0 with
    | false =>
      refine q_when (b := true) (et_is (et_or (a := true) (b := true) (et_not (a := false) (et_B (ev_is (ev_b1 (ev_var rfl) p0) (by rw [hn])))) fun q => nomatch q) rfl) (fun _ H1 X1 => ?_) fun q => nomatch q
      refine s_ret (v := .bl (fFR d0 d1 d2 d3 d4)) (ev_is ev_c ?_) fun H2 X2 => kont H2 (X1.trans X2)
      cases d0 <;> simp_all [fFN, fFR]
    | true =>
      obtain ⟨n, rfl⟩ := fFN_str hn
      obtain ⟨rfl, _⟩ := pv_str p0
      have hn' : fnS n = true := hn
      refine q_when (b := !(isInt d3 && fEL n d4)) (et_is (et_or (et_not (et_B (ev_b1 (ev_var rfl) p0))) fun _ => et_or (et_not (et_B (ev_b1 (ev_var rfl) p3))) fun _ => et_not (et_B (ev_el (ev_var rfl) (ev_var rfl) p4))) (by rw [hn]; simp)) (fun q H1 X1 => ?_) (fun q H1 X1 => ?_)
      · refine s_ret (v := .bl (fFR (.str n) d1 d2 d3 d4)) (ev_is ev_c ?_) fun H2 X2 => kont H2 (X1.trans X2)
        have q' : (isInt d3 && fEL n d4) = false := by
          cases h : (isInt d3 && fEL n d4) with
          | false => rfl
          | true => rw [h] at q; cases q
        simp only [fFR, hn', Bool.true_and]
        cases hi : isInt d3 with
        | true => rw [hi, Bool.true_and] at q'; rw [q', Bool.and_false]
        | false => cases d1 <;> cases d3 <;> simp_all [fFM, isInt]
      · have q' : isInt d3 = true ∧ fEL n d4 = true := by simpa using q
        obtain ⟨i, rfl⟩ : ∃ i, d3 = .int i := by
          have := q'.1
          cases d3 <;> simp [isInt] at this ⊢
        obtain rfl := pv_int p3
        have ef : fFR (.str n) d1 d2 (.int i) d4 = fFM d1 d2 (.int i) := by simp only [fFR, hn', q'.2, Bool.true_and, Bool.and_true]
        rw [ef] at kont
        cases hs : isStr d1 with
        | false =>
          refine q_when (b := true) (et_is (et_or (a := true) (b := true) (et_not (a := false) (et_B (ev_isd (ev_var rfl) (p1.mono X1) (by rw [kd_str, hs])))) fun q => nomatch q) rfl) (fun _ H2 X2 => ?_) fun q => nomatch q
          refine s_ret (v := .bl (fFM d1 d2 (.int i))) (ev_is ev_c ?_) fun H3 X3 => kont H3 ((X1.trans X2).trans X3)
          cases d1 <;> simp_all [isStr, fFM]
        | true =>
          obtain ⟨x, rfl, rfl, hlx⟩ := pv_isStr p1 hs
          have im := inV_modes x
          refine q_when (b := !(decide (x = "mark") || (decide (x = "link") || decide (x = "list")))) (et_is (et_or (et_not (et_B (ev_isd (ev_var rfl) (p1.mono X1) (by rw [kd_str, hs])))) fun _ => et_test (ev_opL (xs := [.str "mark", .str "link", .str "list"]) (ev_var rfl) (el_lst (ea_cons ev_c (ea_cons ev_c (ea_cons ev_c ea_nil))) (Nat.le_of_ble_eq_true rfl)) fun q H2 h2 X2 => rv_niL (K := K) (SqL.of h2) rfl (Way.flat_strs ["mark", "link", "list"]))) (by rw [im]; simp)) (fun qm H2 X2 => ?_) (fun qm H2 X2 => ?_)
          · refine s_ret (v := .bl (fFM (.str x) d2 (.int i))) (ev_is ev_c ?_) fun H3 X3 => kont H3 ((X1.trans X2).trans X3)
            simp only [Bool.not_eq_true', Bool.or_eq_false_iff, decide_eq_false_iff_not] at qm
            simp only [fFM, if_neg qm.1, if_neg (fun z : x = "link" ∨ x = "list" => z.elim qm.2.1 qm.2.2)]
          · have X12 := X1.trans X2
            refine q_when (b := decide (x = "mark")) (et_is (et_test (ev_op (ev_var rfl) ev_c (rv_eq rfl))) (by simp)) (fun q2 H3 X3 => ?_) (fun q2 H3 X3 => ?_)
            · have e2 := of_decide_eq_true q2
              have pw : ∀ (H : Hp) (σ : L2.St), Ev (tOp (rI CPow fun i j => .int (i ^ j.toNat)) (tC (.int 10)) (tC (.int 12))) σ H (.int 1000000000000) := fun H σ => ev_is (ev_op ev_c ev_c (rv_I ⟨by decide, by decide, by decide⟩)) rfl
              refine s_ret (v := .bl (fFM (.str x) d2 (.int i))) (ev_is (ev_andV (ev_op (ev_var rfl) ev_c rv_isN) fun _ => ev_chain (ev_un (pw _ _) ru_neg) (ev_var rfl) (pw _ _) rv_I0 rv_I0) ?_) fun H4 X4 => kont H4 ((X12.trans X3).trans X4)
              rw [pv_isNon p2]
              simp only [fFM, if_pos e2]
              rfl
            · have e2 : ¬ x = "mark" := of_decide_eq_false q2
              have X13 := X12.trans X3
              refine s_ret (v := .bl (fFM (.str x) d2 (.int i))) (ev_is (ev_andV (ev_op (ev_var rfl) ev_c (rv_eq rfl)) fun _ => ev_orV (ev_b1 (ev_var rfl) (p2.mono X13)) fun _ => ev_same (e := .str "any") (ev_var rfl) ev_c (fun H4 X4 => pv_shn (p2.mono (X13.trans X4))) (fun H4 X4 => .dp (.str _) (by decide +kernel)) (pv_fit p2) (Shw.fit (sw_atom (m := 3) (by decide +kernel)))) ?_) fun H4 X4 => kont H4 (X13.trans X4)
              rw [shown_any (pv_pl p2)]
              have e3 : x = "link" ∨ x = "list" := by
                by_cases h1 : x = "link"
                · exact .inl h1
                · exact .inr (by simpa [e2, h1] using qm)
              simp only [fFM, if_neg e2, if_pos e3, fTG]
              simp [Bool.and_comm]
end
end K01

namespace K01
open PySem L2 Way Evl
/-! what is told of a field -/
def dueD (f : Fd) : PyData := .list [.str f.name, .str f.mode, oD f.tgt, .int f.dfl, .tuple (f.was.map .str)]
def DueR (K : PySem.W.Frag) (v0 : V) (d0 d1 d2 d3 d4 : PyData) (v : V) (H : Hp) : Prop := (fFR d0 d1 d2 d3 d4 = true ∧ ∃ f, FdD f d0 d1 d2 d3 d4 ∧ Dp K H v (dueD f)) ∨ (fFR d0 d1 d2 d3 d4 = false ∧ ∃ a, v = .ref a ∧ H a = some (.tup [.str "bad", v0]))
theorem DueR.mono {K : PySem.W.Frag} {v0 v : V} {d0 d1 d2 d3 d4 : PyData} {H H' : Hp} (e : Ex H H') (h : DueR K v0 d0 d1 d2 d3 d4 v H) : DueR K v0 d0 d1 d2 d3 d4 v H' := by
  rcases h with ⟨h1, f, h2, h3⟩ | ⟨h1, a, h2, h3⟩
  · exact .inl ⟨h1, f, h2, dp_mono e _ _ h3⟩
  · exact .inr ⟨h1, a, h2, e _ _ h3⟩
/-- plain strings throughout -/
structure FdPl (f : Fd) : Prop where
  n : plS f.name = true
  m : plS f.mode = true
  t : plA (oD f.tgt) = true
  d : f.dfl.natAbs.log2 < 200
  w : ∀ x ∈ f.was, plS x = true
  l : f.was.length ≤ 2
theorem fdd_inj {f g : Fd} {d0 d1 d2 d3 d4 : PyData} (h : FdD f d0 d1 d2 d3 d4) (k : FdD g d0 d1 d2 d3 d4) : f = g := by
  obtain ⟨h1, h2, h3, h4, h5⟩ := h
  obtain ⟨k1, k2, k3, k4, k5⟩ := k
  subst h1 h2 h3 h4
  have e1 := PyData.str.inj k1
  have e2 := PyData.str.inj k2
  have e4 := PyData.int.inj k4
  have e3 : f.tgt = g.tgt := by
    cases a : f.tgt <;> cases b : g.tgt <;> rw [a, b] at k3 <;> simp_all [oD]
  have e5 : f.was = g.was := by
    rw [h5] at k5
    have := Option.some.inj k5
    exact (List.map_inj_right (fun x y z => PyData.str.inj z)).mp this
  cases f; cases g
  simp_all
theorem fd_pl {K : PySem.W.Frag} {H : Hp} {v0 v1 v2 v3 v4 : V} {f : Fd} {d0 d1 d2 d3 d4 : PyData} (p0 : PV K H v0 d0) (p1 : PV K H v1 d1) (p2 : PV K H v2 d2) (p3 : PV K H v3 d3) (p4 : PV K H v4 d4) (h : FdD f d0 d1 d2 d3 d4) (hr : fFR d0 d1 d2 d3 d4 = true) : FdPl f := by
  have h' := h
  obtain ⟨h1, h2, h3, h4, h5⟩ := h
  subst h1 h2 h3 h4
  obtain ⟨a, xs, rfl, sq, dpa, pe, hl⟩ := pv_seq p4 h5
  refine ⟨(pv_str p0).2, (pv_str p1).2, ?_, ?_, fun x hx => ?_, ?_⟩
  · rcases pv_pl p2 with z | z
    · cases e : f.tgt with
      | none => rfl
      | some x => rw [e] at z; exact z
    · cases e : f.tgt <;> rw [e] at z <;> cases z
  · rcases pv_pl p3 with z | z
    · simpa [pl, plA] using z
    · cases z
  · have := List.all_eq_true.mp pe (.str x) (List.mem_map.mpr ⟨x, hx, rfl⟩)
    exact this
  · simp only [fFR, Bool.and_eq_true] at hr
    have he := hr.2.2
    simp only [fEL, h5] at he
    obtain ⟨ws, e, hw⟩ := elds_strs he
    have e' : f.was = ws := (List.map_inj_right (fun x y z => PyData.str.inj z)).mp e
    rw [e']
    exact hw
theorem due_fit {f : Fd} (h : FdPl f) : Fit (dueD f) ∧ (dueD f).hasDict = false := by
  have s1 : Shw 700 3 (.str f.name) := (sw_atom (m := 3) (d := .str f.name) h.n).le (by decide) (Nat.le_refl _)
  have s2 : Shw 700 3 (.str f.mode) := (sw_atom (m := 3) (d := .str f.mode) h.m).le (by decide) (Nat.le_refl _)
  have s3 : Shw 700 3 (oD f.tgt) := (sw_atom (m := 3) h.t).le (by decide) (Nat.le_refl _)
  have s4 : Shw 700 3 (.int f.dfl) := (sw_int h.d).le (by decide) (Nat.le_refl _)
  have s5 : Shw 700 3 (.tuple (f.was.map .str)) := sw_pl (by
    simp only [pl, Bool.and_eq_true, decide_eq_true_eq, List.length_map]
    exact ⟨by have := h.l; omega, plA_E (all_plA h.w)⟩)
  have : Shw 3505 4 (dueD f) := sw_lst (sw_cons s1 (sw_cons s2 (sw_cons s3 (sw_cons s4 (sw_cons s5 sw_nil)))))
  exact ⟨Shw.fit this, this.nd⟩
theorem due_inj {f g : Fd} (hf : FdPl f) (hg : FdPl g) : decide ((dueD f).shown = (dueD g).shown) = decide (f = g) := by
  refine decide_eq_decide.mpr ⟨fun h => ?_, fun h => by rw [h]⟩
  have hd : ∀ {f : Fd}, FdPl f → ∀ x ∈ [PyData.str f.name, .str f.mode, oD f.tgt, .int f.dfl, .tuple (f.was.map .str)].dropLast, plA x = true := fun {f} hf x hx => by
    simp only [List.dropLast, List.mem_cons, List.not_mem_nil, or_false] at hx
    rcases hx with rfl | rfl | rfl | rfl
    · exact hf.n
    · exact hf.m
    · exact hf.t
    · simpa [plA] using hf.d
  have e := list_inj (by rfl) (hd hf) (hd hg) h
  simp only [List.map_cons, List.map_nil, List.cons.injEq, and_true] at e
  obtain ⟨e1, e2, e3, e4, e5⟩ := e
  have a1 := PyData.str.inj (atom_inj (d := .str f.name) (e := .str g.name) hf.n hg.n e1)
  have a2 := PyData.str.inj (atom_inj (d := .str f.mode) (e := .str g.mode) hf.m hg.m e2)
  have a3 := atom_inj hf.t hg.t e3
  have a4 := int_inj e4
  have a5 := was_inj hf.l hg.l hf.w hg.w e5
  have a3' : f.tgt = g.tgt := by
    cases a : f.tgt <;> cases b : g.tgt <;> rw [a, b] at a3 <;> simp_all [oD]
  cases f; cases g
  simp_all
/-- told and due are shown alike -/
theorem due_same {K : PySem.W.Frag} {H : Hp} {v0 v1 v2 v3 v4 u v : V} {d0 d1 d2 d3 d4 : PyData} (p0 : PV K H v0 d0) (p1 : PV K H v1 d1) (p2 : PV K H v2 d2) (p3 : PV K H v3 d3) (p4 : PV K H v4 d4) (hu : DueR K v0 d0 d1 d2 d3 d4 u H) (hv : DueR K v0 d0 d1 d2 d3 d4 v H) :
    ∃ d, Fit d ∧ (∀ H1, Ex H H1 → Shn K H1 u d) ∧ ∀ H1, Ex H H1 → Shn K H1 v d := by
  rcases hu with ⟨h1, f, h2, h3⟩ | ⟨h1, a, h2, h3⟩
  · rcases hv with ⟨k1, g, k2, k3⟩ | ⟨k1, _⟩
    · have := fdd_inj h2 k2
      subst this
      have ff := due_fit (fd_pl p0 p1 p2 p3 p4 h2 h1)
      exact ⟨dueD f, ff.1, fun H1 X1 => .dp (dp_mono X1 _ _ h3) ff.2, fun H1 X1 => .dp (dp_mono X1 _ _ k3) ff.2⟩
    · rw [h1] at k1; cases k1
  · rcases hv with ⟨k1, _⟩ | ⟨k1, b, k2, k3⟩
    · rw [h1] at k1; cases k1
    · subst h2 k2
      cases p0 with
      | emp h0 => exact ⟨.tuple [.str "bad", .dict []], ⟨by decide +kernel, by decide +kernel, by decide +kernel⟩, fun H1 X1 => .bad (X1 _ _ h3) (X1 _ _ h0), fun H1 X1 => .bad (X1 _ _ k3) (X1 _ _ h0)⟩
      | dp h0 hp =>
        have s : Shw 902 4 (.tuple [.str "bad", d0]) := sw_tup (sw_cons (sw_atom (m := 3) (by decide +kernel)) (sw_cons (sw_pl hp) sw_nil))
        exact ⟨.tuple [.str "bad", d0], Shw.fit s, fun H1 X1 => .dp (.tup (SqT.of (X1 _ _ h3)) (.cons (.str _) (.cons (dp_mono X1 _ _ h0) .nil))) s.nd, fun H1 X1 => .dp (.tup (SqT.of (X1 _ _ k3)) (.cons (.str _) (.cons (dp_mono X1 _ _ h0) .nil))) s.nd⟩
/-- a field that is made -/
theorem fld_core {K : PySem.W.Frag} {C CB x dx : Addr} {H1 : Hp} {n m t df w : V} {dn dm dt ddf dw : PyData} {Q : Hp → Prop} {E : XK} (hx : H1 x = none) (hd : H1 dx = none) (hn : dx ≠ x) (p0 : PV K H1 n dn) (p1 : PV K H1 m dm) (p2 : PV K H1 t dt) (p3 : PV K H1 df ddf) (p4 : PV K H1 w dw)
    (kq : fFR dn dm dt ddf dw = true → ∀ f H', FdD f dn dm dt ddf dw → Ex H1 H' → FAt K C f (.ref x) H' → Q H') (ke : fFR dn dm dt ddf dw = false → ∀ d H', Ex H1 H' → H' d = some (.xd [("name", n)]) → E (.ref CB) (some d) H') :
    spFld K C CB [.ref x, n, m, t, df, w] (upd (upd H1 dx (.own x)) x (.ins C dx [])) (fun v H2 => v = .non ∧ Q H2) E := by
  have X : Ex H1 (upd (upd H1 dx (.own x)) x (.ins C dx [])) := fun b o e => by
    rw [upd_ne (ne_of_none e hx), upd_ne (ne_of_none e hd)]; exact e
  refine ⟨x, dx, n, m, t, df, w, dn, dm, dt, ddf, dw, rfl, upd_same, p0.mono X, p1.mono X, p2.mono X, p3.mono X, p4.mono X, fun f hf hr H' k hF => ⟨rfl, kq hr f H' hf (fun b o e => k b o (ne_of_none e hx) (X b o e)) hF⟩, fun hr d H' e hd' => ke hr d H' (X.trans e) hd'⟩
def spTold (K : PySem.W.Frag) : Sp := fun vs H Q _ => ∃ (l : Addr) (b : Bool) (v0 v1 v2 v3 v4 : V) (d0 d1 d2 d3 d4 : PyData), vs = [.ref l, .bl b] ∧ H l = some (.lst [v0, v1, v2, v3, v4]) ∧ PV K H v0 d0 ∧ PV K H v1 d1 ∧ PV K H v2 d2 ∧ PV K H v3 d3 ∧ PV K H v4 d4 ∧ (b = true → d2 = .none ∧ d3 = .int 0 ∧ d4 = .tuple []) ∧ ∀ v H', Ex H H' → DueR K v0 d0 d1 d2 d3 d4 v H' → Q v H'
def spDue (K : PySem.W.Frag) : Sp := fun vs H Q _ => ∃ (l : Addr) (v0 v1 v2 v3 v4 : V) (d0 d1 d2 d3 d4 : PyData), vs = [.ref l] ∧ H l = some (.lst [v0, v1, v2, v3, v4]) ∧ PV K H v0 d0 ∧ PV K H v1 d1 ∧ PV K H v2 d2 ∧ PV K H v3 d3 ∧ PV K H v4 d4 ∧ ∀ v H', Ex H H' → DueR K v0 d0 d1 d2 d3 d4 v H' → Q v H'
def spMade (K : PySem.W.Frag) (C : Addr) : Sp := fun vs H Q _ => ∃ (l : Addr) (v0 v1 v2 v3 v4 : V) (d0 d1 d2 d3 d4 : PyData), vs = [.ref l] ∧ H l = some (.lst [v0, v1, v2, v3, v4]) ∧ PV K H v0 d0 ∧ PV K H v1 d1 ∧ PV K H v2 d2 ∧ PV K H v3 d3 ∧ PV K H v4 d4 ∧ fFR d0 d1 d2 d3 d4 = true ∧ ∀ f v H', FdD f d0 d1 d2 d3 d4 → Ex H H' → FAt K C f v H' → Q v H'
theorem ev_ix {K : PySem.W.Frag} {H : Hp} {σ : L2.St} {i : Nat} {l : Addr} {xs : List V} {v : V} (j : Nat) (hσ : σ[i]? = some (some (.ref l))) (hl : H l = some (.lst xs)) (hj : xs[j]? = some v) : Ev (tOp (rIxL K) (tVar i) (tC (.int (j : Int)))) σ H v := ev_op (ev_var hσ) ev_c (rv_ixL (sq_of hl) (at_of (j := j) rfl hj))
section
variable {K : PySem.W.Frag} {H : Hp} {σ : L2.St} {l : Addr} {v0 v1 v2 v3 v4 : V} {Q : List V → Hp → Prop}
variable {C : Addr} {m : Nat} {sp : Sp} {D : Ends} {t tk : TA}
theorem s_mkK {E : XK} (h1 : EvA t σ H [v0, v1]) (h2 : EvA tk σ H [v2, v3, v4]) (hm : m = 3) (k : ∀ H2, Ex H H2 → ∀ x dx, H2 x = none → H2 dx = none → dx ≠ x → sp [.ref x, v0, v1, v2, v3, v4] (upd (upd H2 dx (.own x)) x (.ins C dx [])) (fun v H3 => v = .non ∧ D.rt (.ref x) H3) E) :
    tRet (tMakeK C 2 m sp (fun vs zs => gUW vs [] zs) E t tk) D σ H := h1 H (Ex.refl H) _ fun H1 X1 => h2 H1 X1 _ fun H2 X2 => ⟨rfl, hm.symm, fun x dx hx hd hn => k H2 (X1.trans X2) x dx hx hd hn⟩
theorem s_mkKS {E : L2.St → XK} {j : Nat} (h1 : EvA t σ H [v0, v1]) (h2 : EvA tk σ H [v2, v3, v4]) (hm : m = 3) (k : ∀ H2, Ex H H2 → ∀ x dx, H2 x = none → H2 dx = none → dx ≠ x → sp [.ref x, v0, v1, v2, v3, v4] (upd (upd H2 dx (.own x)) x (.ins C dx [])) (fun v H3 => v = .non ∧ D.nx (σ.set j (some (.ref x))) H3) (E σ)) :
    tAsg (tMakeKS C 2 m sp (fun vs zs => gUW vs [] zs) E t tk) (gName j) D σ H := h1 H (Ex.refl H) _ fun H1 X1 => h2 H1 X1 _ fun H2 X2 => ⟨rfl, hm.symm, fun x dx hx hd hn => k H2 (X1.trans X2) x dx hx hd hn⟩
theorem s_mkSD {E : L2.St → XK} {dvs : List V} {j : Nat} (h1 : EvA t σ H [v0, v1]) (k : ∀ H2, Ex H H2 → ∀ x dx, H2 x = none → H2 dx = none → dx ≠ x → sp ([.ref x, v0, v1] ++ dvs) (upd (upd H2 dx (.own x)) x (.ins C dx [])) (fun v H3 => v = .non ∧ D.nx (σ.set j (some (.ref x))) H3) (E σ)) :
    tAsg (tMakeSD C sp dvs E t) (gName j) D σ H := h1 H (Ex.refl H) _ fun H1 X1 x dx hx hd hn => k H1 X1 x dx hx hd hn
theorem ea01 {i : Nat} (hσ : σ[i]? = some (some (.ref l))) (hl : H l = some (.lst [v0, v1, v2, v3, v4])) : EvA (tCons (tOp (rIxL K) (tVar i) (tC (.int 0))) (tCons (tOp (rIxL K) (tVar i) (tC (.int 1))) tNil)) σ H [v0, v1] := ea_cons (ev_ix 0 hσ hl rfl) (ea_cons (ev_ix 1 hσ hl rfl) ea_nil)
theorem ea234 {i : Nat} (hσ : σ[i]? = some (some (.ref l))) (hl : H l = some (.lst [v0, v1, v2, v3, v4])) : EvA (tCons (tOp (rIxL K) (tVar i) (tC (.int 2))) (tCons (tOp (rIxL K) (tVar i) (tC (.int 3))) (tCons (tOp (rIxL K) (tVar i) (tC (.int 4))) tNil))) σ H [v2, v3, v4] := ea_cons (ev_ix 2 hσ hl rfl) (ea_cons (ev_ix 3 hσ hl rfl) (ea_cons (ev_ix 4 hσ hl rfl) ea_nil))
end
section
variable {P : Program} {w : World} {K : PySem.W.Frag} {mg : Str → Option Value} {base : Heap}
theorem ok_made_field (T : Txt P K mg) : FnOk P w K mg base CX0 7 T.f_made_field T.d_made_field P_made_field (spMade K T.C_Field) := by
  have G_Field_init := ok_Field_init (P := P) (w := w) (base := base) T
  obtain ⟨mv, kb_Field_init_0⟩ := kbF T
  refine T.F_made_field.ok sc_made_field (fun vs H Q E h => ?_) (fun cdv A outer s H vs Q E hr h => ?_)
  · obtain ⟨l, v0, v1, v2, v3, v4, d0, d1, d2, d3, d4, rfl, _⟩ := h
    rfl
  · obtain ⟨l, v0, v1, v2, v3, v4, d0, d1, d2, d3, d4, rfl, hl, p0, p1, p2, p3, p4, hr', kont⟩ := h
    refine ⟨_, (pss_one (ps_ret (pe_makeK T.M_Field G_Field_init (hr.mono (by decide)) (by rfl) T.g_Field kb_Field_init_0 L2.passL (pa_cons (pe_ix ix_list (pv 0) pe_int (fun _ _ => rfl)) (pa_cons (pe_ix ix_list (pv 0) pe_int (fun _ _ => rfl)) pa_nil)) (pk_cons (pe_ix ix_list (pv 0) pe_int (fun _ _ => rfl)) (pk_cons (pe_ix ix_list (pv 0) pe_int (fun _ _ => rfl)) (pk_cons (pe_ix ix_list (pv 0) pe_int (fun _ _ => rfl)) pk_nil)))))), ?_⟩
    refine s_mkK (ea01 rfl hl) (ea234 rfl hl) rfl fun H2 X x dx hx hd hn => ?_
    exact fld_core hx hd hn (p0.mono X) (p1.mono X) (p2.mono X) (p3.mono X) (p4.mono X) (fun _ f H3 hf X3 hF => kont f _ H3 hf (X.trans X3) hF) fun z => by rw [hr'] at z; cases z
theorem ok_field_due (T : Txt P K mg) : FnG P w K mg base CX0 5 T.f_field_due T.d_field_due P_field_due (spDue K) := by
  have G_field_right := ok_field_right (P := P) (w := w) (base := base) T
  refine okG T.F_field_due sc_field_due (fun vs H Q E h => ?_) (fun cdv A outer s H vs Q E hgd hr h => ?_)
  · obtain ⟨l, v0, v1, v2, v3, v4, d0, d1, d2, d3, d4, rfl, _⟩ := h
    rfl
  · obtain ⟨l, v0, v1, v2, v3, v4, d0, d1, d2, d3, d4, rfl, hl, p0, p1, p2, p3, p4, kont⟩ := h
    refine ⟨_, (pss_cons (ps_if (pt_not (pt_val (Way.pe_callG G_field_right hgd hr (by rfl) T.g_field_right T.F_field_right.kp T.B_field_right .nil pass0 (pa_cons (pv 0) pa_nil)))) (pss_one (ps_ret (pe_tup (pa_cons pe_str (pa_cons (pe_ix ix_list (pv 0) pe_int (fun _ _ => rfl)) pa_nil))))) pss_nil)
      (pss_one (ps_ret (pe_lst (pa_cons (pe_ix ix_list (pv 0) pe_int (fun _ _ => rfl)) (pa_cons (pe_ix ix_list (pv 0) pe_int (fun _ _ => rfl)) (pa_cons (pe_ix ix_list (pv 0) pe_int (fun _ _ => rfl)) (pa_cons (pe_ix ix_list (pv 0) pe_int (fun _ _ => rfl)) (pa_cons (pe_callTy call_tuple_of (by rfl) T.b_tuple (by decide +kernel) (pa_cons (pe_ix ix_list (pv 0) pe_int (fun _ _ => rfl)) pa_nil)) pa_nil))))))))), ?_⟩
    refine q_when (b := !fFR d0 d1 d2 d3 d4) (et_not (et_B (ev_call (ea_cons (ev_var rfl) ea_nil) fun H1 X Q' q E' => ⟨l, v0, v1, v2, v3, v4, d0, d1, d2, d3, d4, rfl, X _ _ hl, p0.mono X, p1.mono X, p2.mono X, p3.mono X, p4.mono X, fun H2 e2 => q H2 e2⟩))) (fun q H1 X1 => ?_) (fun q H1 X1 => ?_)
    · refine s_retU (eu_tup (ea_cons ev_c (ea_cons (ev_ix 0 rfl (X1 _ _ hl) rfl) ea_nil)) (Nat.le_of_ble_eq_true rfl)) fun a H2 hn X2 h2 => kont _ _ (X1.trans X2) (.inr ⟨by simpa using q, a, rfl, h2⟩)
    · have hr' : fFR d0 d1 d2 d3 d4 = true := by simpa using q
      obtain ⟨f, hf⟩ := right_fd hr'
      have ef := hf
      obtain ⟨e1, e2, e3, e4, e5⟩ := hf
      subst e1 e2 e3 e4
      obtain ⟨rfl, _⟩ := pv_str p0
      obtain ⟨rfl, _⟩ := pv_str p1
      obtain rfl := pv_o p2
      obtain rfl := pv_int p3
      obtain ⟨wa, xs, rfl, sq, dpa, ple, _⟩ := pv_seq p4 e5
      obtain rfl := dp_strs_inv dpa
      have hl1 := X1 _ _ hl
      refine (ev_ix 0 rfl hl1 rfl : Ev _ _ H1 _) H1 (Ex.refl H1) _ fun H2 X2 => ?_
      refine (ev_ix 1 rfl (X2 _ _ hl1) rfl : Ev _ _ H2 _) H2 (Ex.refl H2) _ fun H3 X3 => ?_
      refine (ev_ix 2 rfl (X3 _ _ (X2 _ _ hl1)) rfl : Ev _ _ H3 _) H3 (Ex.refl H3) _ fun H4 X4 => ?_
      refine (ev_ix 3 rfl (X4 _ _ (X3 _ _ (X2 _ _ hl1))) rfl : Ev _ _ H4 _) H4 (Ex.refl H4) _ fun H5 X5 => ?_
      have X15 := ((X2.trans X3).trans X4).trans X5
      refine (ex_tupOf (K := K) (ev_ix 4 rfl (X15 _ _ hl1) rfl) (sq.mono (X1.trans X15)) : EvX _ _ H5 _) H5 (Ex.refl H5) _ fun y H6 X6 ⟨wt, ey, hw⟩ => ⟨Nat.le_of_ble_eq_true rfl, fun a ha => ?_⟩
      subst ey
      refine kont _ _ ((X1.trans X15).trans (X6.trans (Ex.new ha))) (.inl ⟨hr', f, ef, ?_⟩)
      refine .lst (SqL.of upd_same) (.cons (.str _) (.cons (.str _) (.cons ?_ (.cons (.int _) (.cons (.tup (ex_t (Ex.new ha) hw) (dp_strs _)) .nil)))))
      cases f.tgt with
      | none => exact .non
      | some x => exact .str x
theorem ok_field_told (T : Txt P K mg) : FnOk P w K mg base CX0 7 T.f_field_told T.d_field_told P_field_told (spTold K) := by
  have G_Field_init := ok_Field_init (P := P) (w := w) (base := base) T
  obtain ⟨mv, kb_Field_init_0⟩ := kbF T
  obtain ⟨dsF, bd_Field_init⟩ := bdF T
  refine T.F_field_told.ok sc_field_told (fun vs H Q E h => ?_) (fun cdv A outer s H vs Q E hr h => ?_)
  · obtain ⟨l, b, v0, v1, v2, v3, v4, d0, d1, d2, d3, d4, rfl, _⟩ := h
    rfl
  · obtain ⟨l, b, v0, v1, v2, v3, v4, d0, d1, d2, d3, d4, rfl, hl, p0, p1, p2, p3, p4, hb, kont⟩ := h
    refine ⟨_, (pss_cons (ps_try_as (i := 3) rfl rfl sc_field_told.nd rfl rfl ⟨by rfl, by decide, .inl T.g_BadField⟩ Way.takes0 (fun W pn xe tk _ => (pss_one (ps_if (pt_val (pv 1)) (pss_one (ps_set (i := 2) sc_field_told.nd rfl (Or.inl rfl) (Way.pe_makeSD T.M_Field G_Field_init (hr.mono (by decide)) (by rfl) T.g_Field bd_Field_init.2 bd_Field_init.1 (fun σ => passAt tk σ) (pa_cons (pe_ix (Way.kk_ixL (K := K)) (pv 0) pe_int (fun _ _ => rfl)) (pa_cons (pe_ix (Way.kk_ixL (K := K)) (pv 0) pe_int (fun _ _ => rfl)) pa_nil))))) (pss_one (ps_set (i := 2) sc_field_told.nd rfl (Or.inl rfl) (Way.pe_makeKS T.M_Field G_Field_init (hr.mono (by decide)) (by rfl) T.g_Field kb_Field_init_0 (fun σ => passAt tk σ) (pa_cons (pe_ix (Way.kk_ixL (K := K)) (pv 0) pe_int (fun _ _ => rfl)) (pa_cons (pe_ix (Way.kk_ixL (K := K)) (pv 0) pe_int (fun _ _ => rfl)) pa_nil)) (pk_cons (pe_ix (Way.kk_ixL (K := K)) (pv 0) pe_int (fun _ _ => rfl)) (pk_cons (pe_ix (Way.kk_ixL (K := K)) (pv 0) pe_int (fun _ _ => rfl)) (pk_cons (pe_ix (Way.kk_ixL (K := K)) (pv 0) pe_int (fun _ _ => rfl)) pk_nil))))))))) (fun a oe cls d pn hz hf => (pss_one (ps_ret (pe_tup (pa_cons pe_str (pa_cons (pe_xf T.X_BadField.xf T.na_BadField_name hz hf (pv 3)) pa_nil)))))))
      (pss_one (ps_ret (pe_lst (pa_cons (pe_fld (pv 2) rfl) (pa_cons (pe_fld (pv 2) rfl) (pa_cons (pe_fld (pv 2) rfl) (pa_cons (pe_fld (pv 2) rfl) (pa_cons (pe_fld (pv 2) rfl) pa_nil))))))))), ?_⟩
    have bad : ∀ (d : Addr) (H2 : Hp), fFR d0 d1 d2 d3 d4 = false → Ex H H2 → H2 d = some (.xd [("name", v0)]) → ∀ a, tRet (tTup (tCons (tC (.str "bad")) (tCons (tXf a (.ref T.C_BadField) (some d) T.C_BadField "name" (tVar 3)) tNil))) { nx := fun _ H' => Q .non H', rt := Q } [some (.ref l), some (.bl b), none, some (.ref a)] H2 := fun d H2 hf X2 hd a =>
      s_retU (eu_tup (ea_cons ev_c (ea_cons (ev_xf (ev_var rfl) hd rfl) ea_nil)) (Nat.le_of_ble_eq_true rfl)) fun t H3 hn X3 h3 => kont _ _ (X2.trans X3) (.inr ⟨hf, t, rfl, h3⟩)
    have good : ∀ (f : Fd) (x : Addr) (H2 : Hp), fFR d0 d1 d2 d3 d4 = true → FdD f d0 d1 d2 d3 d4 → Ex H H2 → FAt K T.C_Field f (.ref x) H2 → tRet (tLst (tCons (tFld K (tVar 2) "name") (tCons (tFld K (tVar 2) "mode") (tCons (tFld K (tVar 2) "target") (tCons (tFld K (tVar 2) "default") (tCons (tFld K (tVar 2) "was") tNil)))))) { nx := fun _ H' => Q .non H', rt := Q } [some (.ref l), some (.bl b), some (.ref x), none] H2 := fun f x H2 hf hd X2 hF => by
      obtain ⟨a', dx, fs, wt, e1, h1, h2, h3, h4, h5, h6, h7, h8⟩ := hF
      cases e1
      refine s_retL (el_lst (ea_cons (ev_fld (ev_var rfl) h1 T.cl_Field T.na_Field_name h2) (ea_cons (ev_fld (ev_var rfl) h1 T.cl_Field T.na_Field_mode h3) (ea_cons (ev_fld (ev_var rfl) h1 T.cl_Field T.na_Field_target h4) (ea_cons (ev_fld (ev_var rfl) h1 T.cl_Field T.na_Field_default h5) (ea_cons (ev_fld (ev_var rfl) h1 T.cl_Field T.na_Field_was h6) ea_nil))))) (Nat.le_of_ble_eq_true rfl)) fun p H3 hn X3 h9 => ?_
      refine kont _ _ (X2.trans X3) (.inl ⟨hf, f, hd, .lst (SqL.of h9) (.cons (.str _) (.cons (.str _) (.cons ?_ (.cons (.int _) (.cons (.tup (ex_t X3 h7) (dp_strs _)) .nil)))))⟩)
      cases f.tgt with
      | none => exact .non
      | some x => exact .str x
    refine q_if (et_B (ev_var rfl)) (fun q H1 X1 => ?_) (fun q H1 X1 => ?_)
    · subst q
      obtain ⟨rfl, rfl, rfl⟩ := hb rfl
      refine s_mkSD (ea01 rfl (X1 _ _ hl)) fun H2 X2 x dx hx hd hn => ?_
      have X := X1.trans X2
      refine fld_core hx hd hn (p0.mono X) (p1.mono X) (.dp .non rfl) (.dp (.int 0) (by decide +kernel)) (.dp (.tup (T.et_Field_init _) .nil) rfl) (fun hf f H3 hf' X3 hF => good f x H3 hf hf' (X.trans X3) hF) fun hf d H3 X3 hd' => ⟨true, T.X_BadField.exmSelf, fun _ a ha => ?_, fun z => nomatch z⟩
      exact bad d H3 hf (X.trans X3) hd' a
    · subst q
      refine s_mkKS (ea01 rfl (X1 _ _ hl)) (ea234 rfl (X1 _ _ hl)) rfl fun H3 X3 x dx hx hd hn => ?_
      have X := X1.trans X3
      refine fld_core hx hd hn (p0.mono X) (p1.mono X) (p2.mono X) (p3.mono X) (p4.mono X) (fun hf f H4 hf' X4 hF => good f x H4 hf hf' (X.trans X4) hF) fun hf d H4 X4 hd' => ⟨true, T.X_BadField.exmSelf, fun _ a ha => ?_, fun z => nomatch z⟩
      exact bad d H4 hf (X.trans X4) hd' a
end
end K01

namespace K01
open PySem L2 Way Evl
/-- five values in a list -/
structure Fv5 (K : PySem.W.Frag) (H : Hp) (l : Addr) (v0 v1 v2 v3 v4 : V) (d0 d1 d2 d3 d4 : PyData) : Prop where
  hl : H l = some (.lst [v0, v1, v2, v3, v4])
  p0 : PV K H v0 d0
  p1 : PV K H v1 d1
  p2 : PV K H v2 d2
  p3 : PV K H v3 d3
  p4 : PV K H v4 d4
section
variable {K : PySem.W.Frag} {H H' H0 : Hp} {l : Addr} {v0 v1 v2 v3 v4 : V} {d0 d1 d2 d3 d4 : PyData} {σ : L2.St} {j : Nat} {E : XK} {tu tv : TE}
theorem Fv5.mono (h : Fv5 K H l v0 v1 v2 v3 v4 d0 d1 d2 d3 d4) (e : Ex H H') : Fv5 K H' l v0 v1 v2 v3 v4 d0 d1 d2 d3 d4 := ⟨e _ _ h.hl, h.p0.mono e, h.p1.mono e, h.p2.mono e, h.p3.mono e, h.p4.mono e⟩
theorem Fv5.kp {s : Addr} (h : Fv5 K H l v0 v1 v2 v3 v4 d0 d1 d2 d3 d4) (o : Off H s) (k : Kp s H H') (n : l ≠ s) : Fv5 K H' l v0 v1 v2 v3 v4 d0 d1 d2 d3 d4 := ⟨k _ _ n h.hl, h.p0.kp o k, h.p1.kp o k, h.p2.kp o k, h.p3.kp o k, h.p4.kp o k⟩
theorem fv5_of {vs : List V} (hl : H l = some (.lst vs)) (h5 : vs.length = 5) (hv : ∀ v ∈ vs, Pm K H0 v H) : ∃ v0 v1 v2 v3 v4 d0 d1 d2 d3 d4, vs = [v0, v1, v2, v3, v4] ∧ Fv5 K H l v0 v1 v2 v3 v4 d0 d1 d2 d3 d4 ∧ PVm K H v4 d4 ∧ ∀ a, v4 = .ref a → H0 a = none := by
  match vs, h5, hv, hl with
  | [v0, v1, v2, v3, v4], _, hv, hl =>
    obtain ⟨d0, m0, f0⟩ := hv v0 (by simp)
    obtain ⟨d1, m1, f1⟩ := hv v1 (by simp)
    obtain ⟨d2, m2, f2⟩ := hv v2 (by simp)
    obtain ⟨d3, m3, f3⟩ := hv v3 (by simp)
    obtain ⟨d4, m4, f4⟩ := hv v4 (by simp)
    exact ⟨v0, v1, v2, v3, v4, d0, d1, d2, d3, d4, rfl, ⟨hl, m0.p, m1.p, m2.p, m3.p, m4.p⟩, m4, f4⟩
theorem ev_sameX {P R : V → Hp → Prop} {b : Bool} (hu : EvX tu σ H P) (hv : EvX tv σ H R) (mP : ∀ v H1 H2, Ex H1 H2 → P v H1 → P v H2) (k : ∀ u v H1, Ex H H1 → P u H1 → R v H1 → ∃ d e, (∀ H2, Ex H1 H2 → Shn K H2 u d) ∧ (∀ H2, Ex H1 H2 → Shn K H2 v e) ∧ Fit d ∧ Fit e ∧ decide (d.shown = e.shown) = b) :
    Ev (tCall (spSame K) [] E (tCons tu (tCons tv tNil))) σ H (.bl b) := fun H1 e1 Q q =>
  hu H1 e1 _ fun u H2 e2 pu => hv H2 (e1.trans e2) _ fun v H3 e3 rv => by
    obtain ⟨d, e, h1, h2, fd, fe, hb⟩ := k u v H3 (e1.trans (e2.trans e3)) (mP _ _ _ e3 pu) rv
    subst hb
    exact ⟨u, v, d, e, rfl, h1, h2, fd, fe, fun H4 e4 => q H4 ((e2.trans e3).trans e4)⟩
theorem ex_told {b : Bool} (hσ : σ[j]? = some (some (.ref l))) (h : Fv5 K H l v0 v1 v2 v3 v4 d0 d1 d2 d3 d4) (hb : b = true → d2 = .none ∧ d3 = .int 0 ∧ d4 = .tuple []) : EvX (tCall (spTold K) [] E (tCons (tVar j) (tCons (tC (.bl b)) tNil))) σ H (DueR K v0 d0 d1 d2 d3 d4) := fun H1 e Q q =>
  have h := h.mono e
  ⟨_, hσ, l, b, v0, v1, v2, v3, v4, d0, d1, d2, d3, d4, rfl, h.hl, h.p0, h.p1, h.p2, h.p3, h.p4, hb, fun v H2 e2 k => q v H2 e2 k⟩
theorem ex_due (hσ : σ[j]? = some (some (.ref l))) (h : Fv5 K H l v0 v1 v2 v3 v4 d0 d1 d2 d3 d4) : EvX (tCall (spDue K) [] E (tCons (tVar j) tNil)) σ H (DueR K v0 d0 d1 d2 d3 d4) := fun H1 e Q q =>
  have h := h.mono e
  ⟨_, hσ, l, v0, v1, v2, v3, v4, d0, d1, d2, d3, d4, rfl, h.hl, h.p0, h.p1, h.p2, h.p3, h.p4, fun v H2 e2 k => q v H2 e2 k⟩
theorem ev_fr (hσ : σ[j]? = some (some (.ref l))) (h : Fv5 K H l v0 v1 v2 v3 v4 d0 d1 d2 d3 d4) : Ev (tCall (spFR K) [] E (tCons (tVar j) tNil)) σ H (.bl (fFR d0 d1 d2 d3 d4)) := fun H1 e Q q =>
  have h := h.mono e
  ⟨_, hσ, l, v0, v1, v2, v3, v4, d0, d1, d2, d3, d4, rfl, h.hl, h.p0, h.p1, h.p2, h.p3, h.p4, fun H2 e2 => q H2 e2⟩
theorem el_listN {p : Addr} {xs : List V} {ta : TE} (ha : Ev ta σ H (.ref p)) (h : Sq2 K H p xs) : EvL (tCB (fun xs H Q => ∃ p ys, xs = [V.ref p] ∧ (SqL K H p ys ∨ SqT K H p ys) ∧ ∀ l, H l = none → Q (.ref l) (upd H l (.lst ys))) (tCons ta tNil)) σ H xs := fun H1 e Q q =>
  ha H1 e _ fun H2 e2 => ⟨p, xs, rfl, h.mono (e.trans e2), fun t ht => q t _ (fresh_back e2 ht) (e2.trans (Ex.new ht)) upd_same⟩
/-- told and due -/
theorem ev_td {b : Bool} (hσ : σ[j]? = some (some (.ref l))) (h : Fv5 K H l v0 v1 v2 v3 v4 d0 d1 d2 d3 d4) (hb : b = true → d2 = .none ∧ d3 = .int 0 ∧ d4 = .tuple []) {E1 E2 : XK} : Ev (tCall (spSame K) [] E (tCons (tCall (spTold K) [] E1 (tCons (tVar j) (tCons (tC (.bl b)) tNil))) (tCons (tCall (spDue K) [] E2 (tCons (tVar j) tNil)) tNil))) σ H (.bl true) :=
  ev_sameX (ex_told hσ h hb) (ex_due hσ h) (fun _ _ _ e q => q.mono e) fun u v H1 e hu hv => by
    have h := h.mono e
    obtain ⟨d, fd, h1, h2⟩ := due_same h.p0 h.p1 h.p2 h.p3 h.p4 hu hv
    exact ⟨d, d, h1, h2, fd, fd, decide_eq_true rfl⟩
/-- due and due -/
theorem ev_dd {i : Nat} {l' : Addr} {w0 w1 w2 w3 w4 : V} {e0 e1 e2 e3 e4 : PyData} {f g : Fd} (hσ : σ[j]? = some (some (.ref l))) (hτ : σ[i]? = some (some (.ref l'))) (h : Fv5 K H l v0 v1 v2 v3 v4 d0 d1 d2 d3 d4) (k : Fv5 K H l' w0 w1 w2 w3 w4 e0 e1 e2 e3 e4) (hf : FdD f d0 d1 d2 d3 d4) (hg : FdD g e0 e1 e2 e3 e4) (rf : fFR d0 d1 d2 d3 d4 = true) (rg : fFR e0 e1 e2 e3 e4 = true) {E1 E2 : XK} :
    Ev (tCall (spSame K) [] E (tCons (tCall (spDue K) [] E1 (tCons (tVar j) tNil)) (tCons (tCall (spDue K) [] E2 (tCons (tVar i) tNil)) tNil))) σ H (.bl (decide (f = g))) :=
  ev_sameX (ex_due hσ h) (ex_due hτ k) (fun _ _ _ e q => q.mono e) fun u v H1 e hu hv => by
    have pf := fd_pl h.p0 h.p1 h.p2 h.p3 h.p4 hf rf
    have pg := fd_pl k.p0 k.p1 k.p2 k.p3 k.p4 hg rg
    rcases hu with ⟨_, f', h2, h3⟩ | ⟨h1, _⟩
    · rcases hv with ⟨_, g', k2, k3⟩ | ⟨k1, _⟩
      · cases fdd_inj h2 hf
        cases fdd_inj k2 hg
        exact ⟨dueD f, dueD g, fun H2 X => .dp (dp_mono X _ _ h3) (due_fit pf).2, fun H2 X => .dp (dp_mono X _ _ k3) (due_fit pg).2, (due_fit pf).1, (due_fit pg).1, due_inj pf pg⟩
      · rw [rg] at k1; cases k1
    · rw [rf] at h1; cases h1
end
def spFA : Sp := fun vs H Q _ => ∃ (p c ln lp : Addr) (k : Nat) (names pool : List Str), vs = [.ref p, .ref ln, .ref lp] ∧ Pen H p c k ∧ k ≤ 60000 ∧ Src H p ln lp names pool ∧ ∀ H', Kp p H H' → Pen H' p c (k + 27) → Q (.bl true) H'
section
variable {P : Program} {w : World} {K : PySem.W.Frag} {mg : Str → Option Value} {base : Heap}
theorem rvb_eqF (T : Txt P K mg) {f g : Fd} {x y : V} {H : Hp} (hx : FAt K T.C_Field f x H) (hy : FAt K T.C_Field g y H) : RV (rEqB (DOwn K T.C_Field (RF K T.C_Field))) x y H (.bl (decide (f = g))) := fun H1 e Q q => by
  obtain ⟨a, dx, fs, wt, rfl, ha, _⟩ := id (hx.mono e)
  obtain ⟨c, dy, gs, wu, rfl, hc, _⟩ := id (hy.mono e)
  exact ⟨_, ⟨a, dx, _, .ref T.C_Field, rfl, ha, T.ic_Field.ty T.cl_Field hc, notFirst_self, f, hx.mono e, .inl ⟨g, hy.mono e, rfl⟩⟩, fun H2 e2 => q H2 e2⟩
theorem rvb_neF (T : Txt P K mg) {f g : Fd} {x y : V} {H : Hp} (hx : FAt K T.C_Field f x H) (hy : FAt K T.C_Field g y H) : RV (rNeB (DOwn K T.C_Field (RF K T.C_Field))) x y H (.bl (!decide (f = g))) := fun H1 e Q q => by
  obtain ⟨a, dx, fs, wt, rfl, ha, _⟩ := id (hx.mono e)
  obtain ⟨c, dy, gs, wu, rfl, hc, _⟩ := id (hy.mono e)
  exact ⟨_, ⟨a, dx, _, .ref T.C_Field, rfl, ha, T.ic_Field.ty T.cl_Field hc, notFirst_self, f, hx.mono e, .inl ⟨g, hy.mono e, rfl⟩⟩, fun H2 e2 => q H2 e2⟩
/-- a field is no tuple -/
theorem ev_neT (T : Txt P K mg) {f : Fd} {x : V} {H : Hp} {σ : L2.St} {te ta : TE} {l : Addr} {xs : List V} (h : Ev te σ H x) (hx : FAt K T.C_Field f x H) (h2 : Ev ta σ H (.ref l)) (hl : H l = some (.lst xs)) :
    Ev (tOp (rNeB (DOwn K T.C_Field (RF K T.C_Field))) te (tCB (fun xs H Q => ∃ p ys, xs = [V.ref p] ∧ ((SqL K H p ys ∧ ∀ l, H l = none → Q (.ref l) (upd H l (.tup ys))) ∨ (SqT K H p ys ∧ Q (.ref p) H))) (tCons ta tNil))) σ H (.bl true) := fun H1 e Q q =>
  h H1 e _ fun H2 e2 => h2 H2 (e.trans e2) _ fun H3 e3 => ⟨l, xs, rfl, .inl ⟨SqL.of ((e.trans (e2.trans e3)) _ _ hl), fun t ht => by
    have X4 : Ex H3 (upd H3 t (.tup xs)) := Ex.new ht
    have X := (e.trans (e2.trans e3)).trans X4
    obtain ⟨a, dx, fs, wt, rfl, ha, _⟩ := id (hx.mono X)
    obtain ⟨l, m1, m2⟩ := noC_mro (.tuple [])
    exact ⟨false, ⟨a, dx, _, .type "tuple", rfl, ha, .base (.tup upd_same), notFirst_no m1 m2, f, hx.mono X, .inr ⟨fun H5 e5 => noC_tup (e5 _ _ upd_same), rfl⟩⟩, fun H5 e5 => q H5 ((e2.trans e3).trans (X4.trans e5))⟩⟩⟩
theorem ok_fields_asked (T : Txt P K mg) : FnG P w K mg base CX0 8 T.f_fields_asked T.d_fields_asked P_fields_asked spFA := by
  have G_field_parts := ok_field_parts (P := P) (w := w) (base := base) T
  have G_take := ok_take (P := P) (w := w) (base := base) T
  have G_made_field := ok_made_field (P := P) (w := w) (base := base) T
  have G_same := ok_same (P := P) (w := w) (base := base) T
  have G_field_due := ok_field_due (P := P) (w := w) (base := base) T
  have G_field_told := ok_field_told (P := P) (w := w) (base := base) T
  have G_field_right := ok_field_right (P := P) (w := w) (base := base) T
  have G_Field_eq := ok_Field_eq (P := P) (w := w) (base := base) T
  refine okG T.F_fields_asked sc_fields_asked (fun vs H Q E h => ?_) (fun cdv A outer s H vs Q E hgd hr h => ?_)
  · obtain ⟨p, c, ln, lp, k, names, pool, rfl, _⟩ := h
    rfl
  · obtain ⟨p, c, ln, lp, k, names, pool, rfl, hP, hk, hS, kont⟩ := h
    refine ⟨_, (pss_cons (ps_set (i := 3) sc_fields_asked.nd rfl (Or.inl rfl) (pe_call G_field_parts (hr.mono (by decide)) (by rfl) T.g_field_parts T.F_field_parts.kp T.B_field_parts .nil pass0 (pa_cons (pv 0) (pa_cons (pv 1) (pa_cons (pv 2) (pa_cons pe_int pa_nil))))))
      (pss_cons (ps_set (i := 4) sc_fields_asked.nd rfl (Or.inl rfl) (pe_lst (pa_cons (pe_ix ix_list (pv 3) pe_int (fun _ _ => rfl)) (pa_cons (pe_ix ix_list (pv 3) pe_int (fun _ _ => rfl)) (pa_cons pe_non (pa_cons pe_int (pa_cons (pe_tup pa_nil) pa_nil)))))))
      (pss_cons (ps_if (pt_not (pt_val (Way.pe_callG G_same hgd (hr.mono (by decide)) (by rfl) T.g_same T.F_same.kp T.B_same .nil pass0 (pa_cons (pe_call G_field_told hr (by rfl) T.g_field_told T.F_field_told.kp T.B_field_told .nil pass0 (pa_cons (pv 3) (pa_cons pe_bl pa_nil))) (pa_cons (Way.pe_callG G_field_due hgd (hr.mono (by decide)) (by rfl) T.g_field_due T.F_field_due.kp T.B_field_due .nil pass0 (pa_cons (pv 3) pa_nil)) pa_nil))))) (pss_one (ps_ret pe_bl)) pss_nil)
      (pss_cons (ps_if (pt_not (pt_val (Way.pe_callG G_same hgd (hr.mono (by decide)) (by rfl) T.g_same T.F_same.kp T.B_same .nil pass0 (pa_cons (pe_call G_field_told hr (by rfl) T.g_field_told T.F_field_told.kp T.B_field_told .nil pass0 (pa_cons (pv 4) (pa_cons pe_bl pa_nil))) (pa_cons (Way.pe_callG G_field_due hgd (hr.mono (by decide)) (by rfl) T.g_field_due T.F_field_due.kp T.B_field_due .nil pass0 (pa_cons (pv 4) pa_nil)) pa_nil))))) (pss_one (ps_ret pe_bl)) pss_nil)
      (pss_cons (ps_set (i := 5) sc_fields_asked.nd rfl (Or.inl rfl) (pe_callTy call_list_of (by rfl) T.b_list (by decide +kernel) (pa_cons (pv 3) pa_nil)))
      (pss_cons (ps_set (i := 6) sc_fields_asked.nd rfl (Or.inl rfl) (pe_call G_take (hr.mono (by decide)) (by rfl) T.g_take T.F_take.kp T.B_take .nil pass0 (pa_cons (pv 0) (pa_cons pe_int pa_nil))))
      (pss_cons (ps_asg (pe_ix ix_list (pe_call G_field_parts (hr.mono (by decide)) (by rfl) T.g_field_parts T.F_field_parts.kp T.B_field_parts .nil pass0 (pa_cons (pv 0) (pa_cons (pv 1) (pa_cons (pv 2) (pa_cons pe_int pa_nil))))) (pv 6) (fun _ _ => rfl)) (pg_sub (pv 5) (pv 6) set_list))
      (pss_cons (ps_if (PW.pt (pw_or (pt_not (pt_val (Way.pe_callG G_field_right hgd (hr.mono (by decide)) (by rfl) T.g_field_right T.F_field_right.kp T.B_field_right .nil pass0 (pa_cons (pv 3) pa_nil)))) (pw_or1 (pt_not (pt_val (Way.pe_callG G_field_right hgd (hr.mono (by decide)) (by rfl) T.g_field_right T.F_field_right.kp T.B_field_right .nil pass0 (pa_cons (pv 5) pa_nil))))))) (pss_one (ps_ret pe_bl)) pss_nil)
      (pss_cons (ps_set (i := 7) sc_fields_asked.nd rfl (Or.inl rfl) (pe_call G_made_field hr (by rfl) T.g_made_field T.F_made_field.kp T.B_made_field .nil pass0 (pa_cons (pv 3) pa_nil)))
      (pss_cons (ps_set (i := 8) sc_fields_asked.nd rfl (Or.inl rfl) (pe_call G_made_field hr (by rfl) T.g_made_field T.F_made_field.kp T.B_made_field .nil pass0 (pa_cons (pv 5) pa_nil)))
      (pss_cons (ps_set (i := 9) sc_fields_asked.nd rfl (Or.inl rfl) (Way.pe_callG G_same hgd (hr.mono (by decide)) (by rfl) T.g_same T.F_same.kp T.B_same .nil pass0 (pa_cons (Way.pe_callG G_field_due hgd (hr.mono (by decide)) (by rfl) T.g_field_due T.F_field_due.kp T.B_field_due .nil pass0 (pa_cons (pv 3) pa_nil)) (pa_cons (Way.pe_callG G_field_due hgd (hr.mono (by decide)) (by rfl) T.g_field_due T.F_field_due.kp T.B_field_due .nil pass0 (pa_cons (pv 5) pa_nil)) pa_nil))))
      (pss_cut (ps_if (pt_val (pe_callB call_isi (by rfl) T.b_isinstance (by decide +kernel) (pa_cons (pe_ix ix_list (pv 3) pe_int (fun _ _ => rfl)) (pa_cons (pe_bltn (v := .ty "list") (by rfl) T.b_list (by decide +kernel) rfl) pa_nil)))) (pss_one (ps_expr (pe_bm PySem.F.plainAttrs_list PySem.F.slot_list_append PySem.F.type_list_append mt_append (pe_ix ix_list (pv 3) pe_int (fun _ _ => rfl)) (pa_cons pe_str pa_nil)))) pss_nil)
      (pss_one (ps_ret (pe_and (pe_cmpR op_eq (pe_cmpR (kk_eqF T G_Field_eq (hr.mono (by decide))) (pv 7) (pv 8) (nomark _)) (pv 9) (nomark _)) (pe_and (pe_cmpR op_eq (pe_cmpR (kk_eqF T G_Field_eq (hr.mono (by decide))) (pv 8) (pv 7) (nomark _)) (pv 9) (nomark _)) (pe_and (pe_cmpR op_ne (pe_cmpR (kk_neF T G_Field_eq (hr.mono (by decide))) (pv 7) (pv 8) (nomark _)) (pv 9) (nomark _)) (pe_one (pe_cmpR (kk_neF T G_Field_eq (hr.mono (by decide))) (pv 7) (pe_callTy call_tuple_of (by rfl) T.b_tuple (by decide +kernel) (pa_cons (pv 5) pa_nil)) (nomark _)))))))))))))))))))), ?_⟩
    refine q_any ⟨_, rfl, _, rfl, _, rfl, p, c, ln, lp, k, 3, names, pool, rfl, hP, by omega, hS, by decide, by decide, fun l H1 vs hl K1 P1 h1 hlen hv => ?_⟩
    obtain ⟨v0, v1, v2, v3, v4, d0, d1, d2, d3, d4, rfl, F1, m4, f4⟩ := fv5_of h1 hlen hv
    have nlp : l ≠ p := fun z => by rw [z] at hl; obtain ⟨_, ho⟩ := hP.here; rw [ho] at hl; cases hl
    refine q_any ((ev_ix 0 rfl h1 rfl : Ev _ _ H1 _) H1 (Ex.refl H1) _ fun H2 X2 => (ev_ix 1 rfl (X2 _ _ h1) rfl : Ev _ _ H2 _) H2 (Ex.refl H2) _ fun H3 X3 => ⟨Nat.zero_le _, fun t ht => ⟨Nat.le_of_ble_eq_true rfl, fun ls hls => ?_⟩⟩)
    have X4 : Ex H1 (upd (upd H3 t (.tup [])) ls (.lst [v0, v1, .non, .int 0, .ref t])) := (X2.trans X3).trans ((Ex.new ht).trans (Ex.new hls))
    have nt : t ≠ ls := fun z => by rw [← z, upd_same] at hls; cases hls
    have F4 : Fv5 K (upd (upd H3 t (.tup [])) ls (.lst [v0, v1, .non, .int 0, .ref t])) ls v0 v1 .non (.int 0) (.ref t) d0 d1 .none (.int 0) (.tuple []) := ⟨upd_same, F1.p0.mono X4, F1.p1.mono X4, .dp .non rfl, .dp (.int 0) (by decide +kernel), .dp (.tup (SqT.of ((upd_ne nt).trans upd_same)) .nil) rfl⟩
    revert X4 F4
    generalize upd (upd H3 t (.tup [])) ls (.lst [v0, v1, .non, .int 0, .ref t]) = H4
    intro X4 F4
    refine q_when (b := false) (et_is (et_not (a := true) (et_B (ev_td (b := false) rfl (F1.mono X4) fun z => nomatch z))) rfl) (fun q => nomatch q) (fun _ H5 X5 => ?_)
    refine q_when (b := false) (et_is (et_not (a := true) (et_B (ev_td (b := true) rfl (F4.mono X5) fun _ => ⟨rfl, rfl, rfl⟩))) rfl) (fun q => nomatch q) (fun _ H6 X6 => ?_)
    have X16 := X4.trans (X5.trans X6)
    refine q_any ((el_listN (K := K) (ev_var rfl) (.inl (SqL.of (X16 _ _ h1))) : EvL _ _ H6 _) H6 (Ex.refl H6) _ fun la H7 hla X7 h7 => ?_)
    have X17 := X16.trans X7
    have P7 := P1.mono X17
    have nla : la ≠ p := (P1.mono X16).ne hla
    have nlal : la ≠ l := fun z => by rw [z, X16 _ _ h1] at hla; cases hla
    refine q_any (takeN (n := 5) rfl ev_c P7 (by omega) (by decide) (by decide) fun H8 at' K8 P8 a0 a5 => ?_)
    have K08 : Kp p H H8 := Kp.trans K1 (Kp.trans (Kp.of X17) K8)
    refine ⟨_, rfl, _, rfl, _, rfl, p, c, ln, lp, k + 14, 0, names, pool, rfl, P8, by omega, hS.kp K08, by decide, by decide, fun l2 H9 vs2 hl2 K9 P9 h9 hlen2 hv2 => ⟨_, rfl, ?_⟩⟩
    have hat : at'.toNat < vs2.length := by omega
    refine ⟨l2, _, _, _, rfl, rfl, SqL.of h9, at_of (j := at'.toNat) (by omega) (List.getElem?_eq_getElem hat), ?_⟩
    have hy := hv2 _ (List.getElem_mem hat)
    revert hy
    generalize vs2[at'.toNat] = y
    intro hy
    have K79 : Kp p H7 H9 := Kp.trans K8 K9
    have hla9 := K79 _ _ nla h7
    refine ⟨_, rfl, _, rfl, la, _, at', at'.toNat, rfl, rfl, hla9, by
      have := ixN_nat (n := 5) (j := at'.toNat) (by omega)
      rw [show ((at'.toNat : Nat) : Int) = at' by omega] at this
      exact this, ?_⟩
    have K10 : Kp la H9 (upd H9 la (.lst ([v0, v1, v2, v3, v4].set at'.toNat y))) := Kp.set (Kp.refl _ _)
    have off9 : Off H9 la := off_lst hla9 (by show 3 < 5; decide)
    have F10 : Fv5 K (upd H9 la (.lst ([v0, v1, v2, v3, v4].set at'.toNat y))) l v0 v1 v2 v3 v4 d0 d1 d2 d3 d4 := ((F1.mono X17).kp (Pen.off P7) K79 nlp).kp off9 K10 nlal.symm
    have m10 : PVm K (upd H9 la (.lst ([v0, v1, v2, v3, v4].set at'.toNat y))) v4 d4 := ((m4.mono X17).kp (Pen.off P7) K79).kp off9 K10
    have hv10 : ∀ v ∈ [v0, v1, v2, v3, v4].set at'.toNat y, Pm K H v (upd H9 la (.lst ([v0, v1, v2, v3, v4].set at'.toNat y))) := fun v hv' => by
      rcases mem_set hv' with h | rfl
      · exact Pm.kp off9 K10 (Pm.kp (Pen.off P7) K79 (pm_mono _ _ _ X17 (hv v h)))
      · exact Pm.kp off9 K10 (hy.le fun a h => Kp.free K08 (P8.ne h) h)
    have hla0 : H la = none := Kp.free K1 nla (fresh_back X16 hla)
    have P10 : Pen (upd H9 la (.lst ([v0, v1, v2, v3, v4].set at'.toNat y))) p c (k + 27) := (P9.upd nla ((P1.mono X16).neC hla)).le (by omega)
    have K010 : Kp p H (upd H9 la (.lst ([v0, v1, v2, v3, v4].set at'.toNat y))) := Kp.new (Kp.trans K08 K9) hla0
    obtain ⟨w0, w1, w2, w3, w4, e0, e1, e2, e3, e4, ew, G10, _, _⟩ := fv5_of (l := la) upd_same (by rw [List.length_set]; rfl) hv10
    revert F10 m10 P10 K010 G10
    generalize upd H9 la (.lst ([v0, v1, v2, v3, v4].set at'.toNat y)) = H10
    intro F10 m10 P10 K010 G10
    refine q_when (b := !fFR d0 d1 d2 d3 d4 || !fFR e0 e1 e2 e3 e4) (et_or (et_not (et_B (ev_fr rfl F10))) fun _ => et_not (et_B (ev_fr rfl G10))) (fun q H11 X11 => ?_) (fun q H11 X11 => ?_)
    · exact s_ret ev_c fun H12 X12 => kont H12 (Kp.trans K010 (Kp.of (X11.trans X12))) (P10.mono (X11.trans X12))
    · have q' : fFR d0 d1 d2 d3 d4 = true ∧ fFR e0 e1 e2 e3 e4 = true := by simpa using q
      have F11 := F10.mono X11
      refine q_any ⟨_, rfl, l, v0, v1, v2, v3, v4, d0, d1, d2, d3, d4, rfl, F11.hl, F11.p0, F11.p1, F11.p2, F11.p3, F11.p4, q'.1, fun f x H12 hf X12 hF => ?_⟩
      have G12 := G10.mono (X11.trans X12)
      refine q_any ⟨_, rfl, la, w0, w1, w2, w3, w4, e0, e1, e2, e3, e4, rfl, G12.hl, G12.p0, G12.p1, G12.p2, G12.p3, G12.p4, q'.2, fun g z H13 hg X13 hG => ?_⟩
      have X13' := X11.trans (X12.trans X13)
      refine q_asg (ev_dd rfl rfl (F10.mono X13') (G10.mono X13') hf hg q'.1 q'.2) fun H14 X14 => ?_
      have X1014 := X13'.trans X14
      refine q_cut (M := fun σ' H' => σ' = [some (.ref p), some (.ref ln), some (.ref lp), some (.ref l), some (.ref ls), some (.ref la), some (.int at'), some x, some z, some (.bl (decide (f = g)))] ∧ FAt K T.C_Field f x H' ∧ FAt K T.C_Field g z H' ∧ (∃ ws, H' la = some (.lst ws)) ∧ Kp p H H' ∧ Pen H' p c (k + 27)) ?_ ?_
      · have m14 := m10.mono X1014
        have hl14 := X1014 _ _ F10.hl
        refine s_when (et_B (ev_isd (ev_ix 4 rfl hl14 rfl) m14.p kd_list)) (fun q2 H15 X15 => ?_) (fun q2 H15 X15 => ?_)
        · obtain ⟨ds4, ed4⟩ : ∃ ds, d4 = .list ds := by cases d4 <;> simp [isLs] at q2 ⊢
          obtain ⟨a4, xs4, rfl, h4, l4, _⟩ := (m14.mono X15).m ds4 ed4
          have X1015 := X1014.trans X15
          have n4 := f4 a4 rfl
          refine s_app h4 (ev_ix 4 rfl (X15 _ _ hl14) rfl) ev_c (by omega) fun H16 X16 => ?_
          have h416 := X16 _ _ h4
          have hla16 := X16 _ _ (X1015 _ _ G10.hl)
          have KI : KpI K H16 (upd H16 a4 (.lst (xs4 ++ [.str "zz"]))) := kpi_lst h416 (Kp.set (Kp.refl _ _))
          have nal : la ≠ a4 := fun z => by
            rw [z, h416] at hla16
            have := congrArg List.length (HO.lst.inj (Option.some.inj hla16))
            rw [this] at l4
            exact absurd l4 (by show ¬ 5 ≤ 3; decide)
          have X1016 := X1015.trans X16
          exact ⟨rfl, ((hF.mono X13).mono (X14.trans (X15.trans X16))).keep KI, (hG.mono (X14.trans (X15.trans X16))).keep KI, ⟨_, (upd_ne nal).trans hla16⟩, Kp.new (Kp.trans K010 (Kp.of X1016)) n4, (P10.mono X1016).upd (hP.ne n4) (hP.neC n4)⟩
        · exact ⟨rfl, (hF.mono X13).mono (X14.trans X15), hG.mono (X14.trans X15), ⟨_, (X1014.trans X15) _ _ G10.hl⟩, Kp.trans K010 (Kp.of (X1014.trans X15)), P10.mono (X1014.trans X15)⟩
      · rintro σ' H15 ⟨rfl, hF, hG, ⟨ws, hla15⟩, K15, P15⟩
        refine s_ret (ev_is (ev_andV (ev_op (ev_op (ev_var rfl) (ev_var rfl) (rvb_eqF T hF hG)) (ev_var rfl) (rv_eq rfl)) fun _ => ev_andV (ev_op (ev_op (ev_var rfl) (ev_var rfl) (rvb_eqF T hG hF)) (ev_var rfl) (rv_eq rfl)) fun _ => ev_andV (ev_op (ev_op (ev_var rfl) (ev_var rfl) (rvb_neF T hF hG)) (ev_var rfl) (rv_ne rfl)) fun _ => ev_neT T (ev_var rfl) hF (ev_var rfl) hla15) ?_) fun H16 X16 => kont H16 (Kp.trans K15 (Kp.of X16)) (P15.mono X16)
        by_cases e : f = g
        · subst e; simp
        · simp [e, Ne.symm e]
end
end K01

namespace K01
open PySem L2 Way Evl
theorem el_catL {σ : L2.St} {H : Hp} {ta tb : TE} {xs ys : List V} (h : EvL ta σ H xs) (h2 : EvL tb σ H ys) (hl : xs.length + ys.length ≤ 100000) : EvL (tOp rCat ta tb) σ H (xs ++ ys) := fun H1 e Q q =>
  h H1 e _ fun p H2 hn e2 hp => h2 H2 (e.trans e2) _ fun p' H3 hn3 e3 h3 => ⟨p, p', xs, ys, rfl, rfl, e3 _ _ hp, h3, sz_of hl, fun t ht => q t _ (fresh_back (e2.trans e3) ht) ((e2.trans e3).trans (Ex.new ht)) upd_same⟩
theorem cut_lo {ws : List Str} {i : Int} (h0 : 0 ≤ i) (h : i < (ws.length : Int)) : cutV (ws.map V.str) (some i) none = (ws.drop i.toNat).map V.str := by
  have e : i = ((i.toNat : Nat) : Int) := by omega
  have e1 : HT.sIx (ws.map V.str).length 0 (some i) = i.toNat := by
    rw [e, HT.sIx_nat, List.length_map]; omega
  unfold cutV
  rw [e1]
  show List.take (HT.sIx _ _ none - i.toNat) _ = _
  rw [show HT.sIx (ws.map V.str).length (ws.map V.str).length none = (ws.map V.str).length from rfl, ← List.map_drop, List.take_of_length_le (by simp)]
theorem cut_hi {ws : List Str} {i : Int} (h0 : 0 ≤ i) (h : i < (ws.length : Int)) : cutV (ws.map V.str) none (some i) = (ws.take i.toNat).map V.str := by
  have e : i = ((i.toNat : Nat) : Int) := by omega
  have e1 : HT.sIx (ws.map V.str).length (ws.map V.str).length (some i) = i.toNat := by
    rw [e, HT.sIx_nat, List.length_map]; omega
  unfold cutV
  rw [e1]
  show List.take (i.toNat - HT.sIx _ _ none) _ = _
  rw [show HT.sIx (ws.map V.str).length 0 none = 0 from rfl, List.drop_zero, ← List.map_take, Nat.sub_zero]
def spRF (K : PySem.W.Frag) (C : Addr) : Sp := fun vs H Q _ => ∃ (p c ln lp : Addr) (k n : Nat) (names pool : List Str), vs = [.ref p, .ref ln, .ref lp, .int (n : Int)] ∧ Pen H p c k ∧ k ≤ 60000 ∧ Src H p ln lp names pool ∧ n ≤ 20 ∧ n ≤ pool.length ∧ ∀ l H' xs (fs : List Fd), H l = none → Kp p H H' → Pen H' p c (k + 1 + 13 * n) → H' l = some (.lst xs) → Paired (fun x f => FAt K C f x H') xs fs → fs.length = n → Q (.ref l) H'
theorem mark_right {z : Str} (h : fnS z = true) {i : Nat} (hi : i < 100) : fFR (.str z) (.str "mark") .none (.int (i : Int)) (.tuple []) = true := by
  have e : fFM (.str "mark") .none (.int (i : Int)) = true := by
    simp only [fFM, if_pos, Way.isNon, Bool.true_and]
    rw [decide_eq_true (show -BIG < (i : Int) by unfold BIG; omega), decide_eq_true (show (i : Int) < BIG by unfold BIG; omega)]; rfl
  have e2 : fEL z (.tuple []) = true := rfl
  simp only [fFR, h, e, e2, Bool.and_self]
theorem pr_snoc {α : Type} {R : V → α → Prop} {xs : List V} {ys : List α} {x : V} {y : α} (h : Paired R xs ys) (k : R x y) : Paired R (xs ++ [x]) (ys ++ [y]) := by
  induction h with
  | nil => exact .cons k .nil
  | cons a _ ih => exact .cons a ih
section
variable {P : Program} {w : World} {K : PySem.W.Frag} {mg : Str → Option Value} {base : Heap}
theorem ok_right_fields (T : Txt P K mg) : FnG P w K mg base CX0 8 T.f_right_fields T.d_right_fields P_right_fields (spRF K T.C_Field) := by
  have G_take := ok_take (P := P) (w := w) (base := base) T
  have G_field_parts := ok_field_parts (P := P) (w := w) (base := base) T
  have G_field_right := ok_field_right (P := P) (w := w) (base := base) T
  have G_made_field := ok_made_field (P := P) (w := w) (base := base) T
  refine okG T.F_right_fields sc_right_fields (fun vs H Q E h => ?_) (fun cdv A outer s H vs Q E hgd hr h => ?_)
  · obtain ⟨p, c, ln, lp, k, n, names, pool, rfl, _⟩ := h
    rfl
  · obtain ⟨p, c, ln, lp, k, n, names, pool, rfl, hP, hk, hS, hn, hnp, kont⟩ := h
    refine ⟨_, (pss_cons (ps_set (i := 4) sc_right_fields.nd rfl (Or.inl rfl) (pe_call G_take (hr.mono (by decide)) (by rfl) T.g_take T.F_take.kp T.B_take .nil pass0 (pa_cons (pv 0) (pa_cons (pe_callB call_len_seq (by rfl) T.b_len (by decide +kernel) (pa_cons (pv 2) pa_nil)) pa_nil))))
      (pss_cons (ps_set (i := 5) sc_right_fields.nd rfl (Or.inl rfl) (pe_op op_cat (pe_slice sl_list (pv 2) (po_some (pv 4)) po_none) (pe_slice sl_list (pv 2) po_none (po_some (pv 4)))))
      (pss_cons (ps_set (i := 6) sc_right_fields.nd rfl (Or.inl rfl) (pe_lst pa_nil))
      (pss_cons (ps_for PassesOwn.never rfl (pi_range1 (by rfl) T.b_range (pa_cons (pv 3) pa_nil)) (pg_name (i := 7) sc_right_fields.nd rfl (Or.inl rfl)) (pss_cons (ps_set (i := 8) sc_right_fields.nd rfl (Or.inl rfl) (pe_call G_field_parts (hr.mono (by decide)) (by rfl) T.g_field_parts T.F_field_parts.kp T.B_field_parts .nil pass0 (pa_cons (pv 0) (pa_cons (pv 1) (pa_cons (pv 2) (pa_cons pe_int pa_nil))))))
      (pss_cons (ps_asg (pe_ix ix_list (pv 5) (pv 7) (fun _ _ => rfl)) (pg_sub (pv 8) pe_int set_list))
      (pss_cut (ps_if (pt_not (pt_val (Way.pe_callG G_field_right hgd (hr.mono (by decide)) (by rfl) T.g_field_right T.F_field_right.kp T.B_field_right .nil pass0 (pa_cons (pv 8) pa_nil)))) (pss_one (ps_set (i := 8) sc_right_fields.nd rfl (Or.inl rfl) (pe_lst (pa_cons (pe_ix ix_list (pv 5) (pv 7) (fun _ _ => rfl)) (pa_cons pe_str (pa_cons pe_non (pa_cons (pv 7) (pa_cons (pe_tup pa_nil) pa_nil)))))))) pss_nil)
      (pss_one (ps_expr (pe_bm PySem.F.plainAttrs_list PySem.F.slot_list_append PySem.F.type_list_append mt_append (pv 6) (pa_cons (pe_call G_made_field hr (by rfl) T.g_made_field T.F_made_field.kp T.B_made_field .nil pass0 (pa_cons (pv 8) pa_nil)) pa_nil))))))))
      (pss_one (ps_ret (pv 6))))))), ?_⟩
    have h13 := hS.p1
    refine q_any (takeN (n := (pool.length : Int)) rfl (ev_is (ev_cb (ea_cons (ev_var rfl) ea_nil) (rc_lenL (K := K) (sq_of hS.hp))) (by rw [List.length_map])) hP (by omega) (by omega) (by omega) fun H1 d K1 P1 d0 d1 => ?_)
    have S1 := hS.kp K1
    refine q_any ((el_catL (el_sl (K := K) (ev_var rfl) (eo_some (ev_var rfl)) eo_none (sq_of S1.hp)) (el_sl (K := K) (ev_var rfl) eo_none (eo_some (ev_var rfl)) (sq_of S1.hp)) (by
      have a := cutV_length (pool.map V.str) (some d) none
      have b := cutV_length (pool.map V.str) none (some d)
      rw [List.length_map] at a b
      omega) : EvL _ _ H1 _) H1 (Ex.refl H1) _ fun tr H2 htr X2 h2 => ?_)
    rw [cut_lo d0 d1, cut_hi d0 d1, ← List.map_append] at h2
    have ht : ∀ x ∈ pool.drop d.toNat ++ pool.take d.toNat, fnS x = true := fun x hx => hS.fn x ((List.mem_append.mp hx).elim List.mem_of_mem_drop List.mem_of_mem_take)
    have hlt : (pool.drop d.toNat ++ pool.take d.toNat).length = pool.length := by
      rw [List.length_append, List.length_drop, List.length_take]; omega
    revert h2 ht hlt
    generalize pool.drop d.toNat ++ pool.take d.toNat = ts
    intro h2 ht hlt
    refine q_any ⟨Nat.zero_le _, fun fd hfd => ?_⟩
    have ntp : tr ≠ p := P1.ne htr
    have P2 := P1.mono X2
    have nfp : fd ≠ p := P2.ne hfd
    have nft : fd ≠ tr := fun z => by rw [z, h2] at hfd; cases hfd
    have K2 : Kp p H H2 := Kp.trans K1 (Kp.of X2)
    have hfd0 : H fd = none := Kp.free K2 nfp hfd
    have htr0 : H tr = none := Kp.free K1 ntp htr
    have X3 : Ex H2 (upd H2 fd (.lst [])) := Ex.new hfd
    refine q_forR1 (n := (n : Int)) (ea_cons (ev_var rfl) ea_nil) (by omega) (fun i σ H' => ∃ vk vp xs fs, σ = [some (.ref p), some (.ref ln), some (.ref lp), some (.int (n : Int)), some (.int d), some (.ref tr), some (.ref fd), vk, vp] ∧ H' fd = some (.lst xs) ∧ Paired (fun x f => FAt K T.C_Field f x H') xs fs ∧ fs.length = i ∧ H' tr = some (.lst (ts.map V.str)) ∧ Kp p H H' ∧ Pen H' p c (k + 1 + 13 * i))
      (fun H4 X4 => ⟨none, none, [], [], rfl, X4 _ _ upd_same, .nil, rfl, X4 _ _ (X3 _ _ h2), Kp.trans K2 (Kp.of (X3.trans X4)), (P2.mono (X3.trans X4))⟩) ?_ ?_
    · rintro i σ' H' hi ⟨vk, vp, xs, fs, rfl, i1, i2, i3, i4, i5, i6⟩
      have hin : i < n := by omega
      refine q_any ⟨_, rfl, _, rfl, _, rfl, p, c, ln, lp, _, 0, names, pool, rfl, i6, by omega, hS.kp i5, by decide, by decide, fun l H5 vs hl K5 P5 h5 hlen hv => ?_⟩
      obtain ⟨v0, v1, v2, v3, v4, d0', d1', d2', d3', d4', rfl, F5, _, _⟩ := fv5_of h5 hlen hv
      have nlp : l ≠ p := i6.ne hl
      have nlt : l ≠ tr := fun z => by rw [z, i4] at hl; cases hl
      have nlf : l ≠ fd := fun z => by rw [z, i1] at hl; cases hl
      have hl0 : H l = none := Kp.free i5 nlp hl
      obtain ⟨kvs, hkv⟩ := i6.here
      have KI5 : KpI K H' H5 := kpi_dK hkv K5
      have tr5 := K5 _ _ ntp i4
      have fd5 := K5 _ _ nfp i1
      have hit : i < ts.length := by omega
      have fz : fnS ts[i] = true := ht _ (List.getElem_mem hit)
      have hti : ts[i]? = some ts[i] := List.getElem?_eq_getElem hit
      revert fz hti
      generalize ts[i] = z
      intro fz hti
      have htV : (ts.map V.str)[i]? = some (.str z) := by rw [List.getElem?_map, hti]; rfl
      have ez : ∀ (H6 : Hp) (σ : L2.St) (a : Nat) (b : Nat), σ[a]? = some (some (.ref tr)) → σ[b]? = some (some (.int (i : Int))) → H6 tr = some (.lst (ts.map V.str)) → Ev (tOp (rIxL K) (tVar a) (tVar b)) σ H6 (.str z) := fun H6 σ a b ha hb h6 => ev_op (ev_var ha) (ev_var hb) (rv_ixL (sq_of h6) (at_of (j := i) rfl htV))
      refine q_setL (j := 0) h5 (ez H5 _ 5 7 rfl rfl tr5) (ev_var rfl) ev_c (by show 0 < 5; decide) fun H6 X6 => ?_
      have K7 : Kp l H5 (upd H6 l (.lst ([v0, v1, v2, v3, v4].set 0 (.str z)))) := Kp.set (Kp.of X6)
      have off5 : Off H5 l := off_lst h5 (by show 3 < 5; decide)
      have F7 : Fv5 K (upd H6 l (.lst ([v0, v1, v2, v3, v4].set 0 (.str z)))) l (.str z) v1 v2 v3 v4 (.str z) d1' d2' d3' d4' := ⟨upd_same, (pv_of (fnS_pl fz)).p, F5.p1.kp off5 K7, F5.p2.kp off5 K7, F5.p3.kp off5 K7, F5.p4.kp off5 K7⟩
      have KI7 : KpI K H5 (upd H6 l (.lst ([v0, v1, v2, v3, v4].set 0 (.str z)))) := kpi_lst h5 K7
      have tr7 := K7 _ _ nlt.symm tr5
      have fd7 := K7 _ _ nlf.symm fd5
      have P7 := P5.kp K7 nlp.symm (i6.neC hl).symm
      have K07 : Kp p H (upd H6 l (.lst ([v0, v1, v2, v3, v4].set 0 (.str z)))) := Kp.new (Kp.trans i5 (Kp.trans K5 (Kp.of X6))) hl0
      revert F7 KI7 tr7 fd7 P7 K07
      generalize upd H6 l (.lst ([v0, v1, v2, v3, v4].set 0 (.str z))) = H7
      intro F7 KI7 tr7 fd7 P7 K07
      refine q_cut (M := fun σ' H8 => ∃ l' w0 w1 w2 w3 w4 e0 e1 e2 e3 e4, σ' = [some (.ref p), some (.ref ln), some (.ref lp), some (.int (n : Int)), some (.int d), some (.ref tr), some (.ref fd), some (.int (i : Int)), some (.ref l')] ∧ Fv5 K H8 l' w0 w1 w2 w3 w4 e0 e1 e2 e3 e4 ∧ fFR e0 e1 e2 e3 e4 = true ∧ Ex H7 H8) ?_ ?_
      · refine s_when (et_not (et_B (ev_fr rfl F7))) (fun q H8 X8 => ?_) (fun q H8 X8 => ?_)
        · refine (ez H8 _ 5 7 rfl rfl (X8 _ _ tr7)) H8 (Ex.refl H8) _ fun H9 X9 => ⟨_, rfl, Nat.zero_le _, fun t ht' => ⟨Nat.le_of_ble_eq_true rfl, fun lt hlt' => ?_⟩⟩
          have X10 : Ex H7 (upd (upd H9 t (.tup [])) lt (.lst [.str z, .str "mark", .non, .int (i : Int), .ref t])) := (X8.trans X9).trans ((Ex.new ht').trans (Ex.new hlt'))
          have nt : t ≠ lt := fun q => by rw [← q, upd_same] at hlt'; cases hlt'
          refine ⟨lt, .str z, .str "mark", .non, .int (i : Int), .ref t, .str z, .str "mark", .none, .int (i : Int), .tuple [], rfl, ⟨upd_same, (pv_of (fnS_pl fz)).p, (pv_of (by decide +kernel)).p, .dp .non rfl, ?_, .dp (.tup (SqT.of ((upd_ne nt).trans upd_same)) .nil) rfl⟩, mark_right fz (by omega), X10⟩
          exact .dp (.int _) (by
            have := log9 (d := (i : Int)) (by omega) (by omega)
            simpa [pl, plA] using this)
        · exact ⟨l, _, _, _, _, _, _, _, _, _, _, rfl, F7.mono X8, by simpa using q, X8⟩
      · rintro σ' H8 ⟨l', w0, w1, w2, w3, w4, e0, e1, e2, e3, e4, rfl, F8, rt, X8⟩
        refine ⟨_, rfl, Or.inl ⟨rfl, xs, sq_of (X8 _ _ fd7)⟩, ⟨_, rfl, l', w0, w1, w2, w3, w4, e0, e1, e2, e3, e4, rfl, F8.hl, F8.p0, F8.p1, F8.p2, F8.p3, F8.p4, rt, fun f v H9 hf X9 hF => ?_⟩⟩
        have X79 := X8.trans X9
        have fd9 := X79 _ _ fd7
        have lx : xs.length = i := (Paired.length i2).trans i3
        refine ⟨fd, xs, v, rfl, rfl, fd9, sz_lt (by omega), ?_⟩
        have KI9 : KpI K H9 (upd H9 fd (.lst (xs ++ [v]))) := kpi_lst fd9 (Kp.set (Kp.refl _ _))
        have P9 := P7.mono X79
        refine ⟨_, _, xs ++ [v], fs ++ [f], rfl, upd_same, pr_snoc (Paired.mapP i2 fun _ _ q => ((((q.keep KI5).keep KI7).mono X79).keep KI9)) (hF.keep KI9), by rw [List.length_append, i3]; rfl, (upd_ne nft.symm).trans (X79 _ _ tr7), Kp.new (Kp.trans K07 (Kp.of X79)) hfd0, ?_⟩
        exact (P9.upd nfp (hP.neC hfd0)).le (by omega)
    · rintro σ' H' ⟨vk, vp, xs, fs, rfl, i1, i2, i3, i4, i5, i6⟩
      have e : ((n : Int)).toNat = n := by omega
      rw [e] at i3 i6
      exact s_ret (ev_var rfl) fun H5 X5 => kont fd H5 xs fs hfd0 (Kp.trans i5 (Kp.of X5)) (i6.mono X5) (X5 _ _ i1) (Paired.mapP i2 fun _ _ q => q.mono X5) i3
end
end K01

namespace K01
open PySem L2 Way Evl
section
variable {K : PySem.W.Frag} {C : Addr} {H H' H0 : Hp} {s : Addr} {v : V} {fv : Fv} {σ : L2.St}
theorem elAt_kp {e : El} (o : Off H s) (ki : KpI K H H') (k : Kp s H H') (h : ElAt K C e v H) : ElAt K C e v H' := by
  cases e with
  | fld f => exact FAt.keep ki h
  | dat d => exact PV.kp o k h
theorem FvAt.kp (h : FvAt K C fv v H) (o : Off H s) (ki : KpI K H H') (k : Kp s H H') (n : v ≠ .ref s) : FvAt K C fv v H' := by
  cases fv with
  | dat d => exact ⟨h.1.kp o k, h.2⟩
  | seq b es =>
    obtain ⟨a, xs, rfl, hs, hp⟩ := h
    refine ⟨a, xs, rfl, ?_, Paired.mapP hp fun _ _ q => elAt_kp o ki k q⟩
    cases b with
    | true => exact k _ _ (fun z => n (by rw [z])) hs
    | false => exact ki.t _ _ hs
theorem pl_A {d : PyData} (h : plA d = true) : pl d = true := by
  cases d <;> simp_all [pl, plA]
theorem pr_dat : ∀ {xs : List V} {ds : List PyData}, ds.all plA = true → DpAll K H xs ds → Paired (fun x e => ElAt K C e x H) xs (ds.map .dat)
  | _, _, _, .nil => .nil
  | _, _, p, .cons a r => by
    rw [List.all_cons, Bool.and_eq_true] at p
    exact .cons (PV.dp a (pl_A p.1)) (pr_dat p.2 r)
theorem od_fv (h : Od K H0 v H) : ∃ fv, FvAt K C fv v H := by
  obtain ⟨d, pm, f1, fr⟩ := h
  have pp := pm.p
  cases d with
  | list ds =>
    obtain ⟨a, xs, rfl, ha, hl, hd⟩ := pm.m ds rfl
    exact ⟨.seq true (ds.map .dat), a, xs, rfl, ha, pr_dat f1 hd⟩
  | tuple ds =>
    cases pp with
    | dp h p => cases h with
      | tup h1 h2 => exact ⟨.seq false (ds.map .dat), _, _, rfl, h1, pr_dat f1 h2⟩
  | none => exact ⟨.dat .none, pp, rfl⟩
  | bool b => exact ⟨.dat (.bool b), pp, rfl⟩
  | int i => exact ⟨.dat (.int i), pp, rfl⟩
  | str x => exact ⟨.dat (.str x), pp, rfl⟩
  | dict x => exact ⟨.dat (.dict x), pp, rfl⟩
/-- an odd value, when another address is set -/
theorem od_set {d : PyData} (p : PV K H v d) (f : fl1 d = true) (n : ∀ a, v = .ref a → a ≠ s) (k : Kp s H H') : PV K H' v d := by
  cases p with
  | emp h => exact .emp (k _ _ (n _ rfl) h)
  | dp h p =>
    refine .dp ?_ p
    cases h with
    | non => exact .non
    | bl b => exact .bl b
    | int i => exact .int i
    | str x => exact .str x
    | lst h1 h2 =>
      refine .lst ?_ (dpAll_atoms f h2)
      rcases h1 with (h | ⟨ob, h⟩) | h
      · exact .inl (.inl (k _ _ (n _ rfl) h))
      · exact .inl (.inr ⟨ob, k _ _ (n _ rfl) h⟩)
      · exact .inr h
    | tup h1 h2 =>
      refine .tup ?_ (dpAll_atoms f h2)
      rcases h1 with (h | ⟨ob, h⟩) | h
      · exact .inl (.inl (k _ _ (n _ rfl) h))
      · exact .inl (.inr ⟨ob, k _ _ (n _ rfl) h⟩)
      · exact .inr h
/-- seven values of a kind -/
structure Kpv (K : PySem.W.Frag) (C : Addr) (H0 : Hp) (vs : List V) (H : Hp) : Prop where
  n : vs.length = 7
  o : ∀ i v, vs[i]? = some v → i ≠ 1 → Pm K H0 v H
  f : ∀ v, vs[1]? = some v → (∃ fv, FvAt K C fv v H) ∧ ∀ a, v = .ref a → H0 a = none
theorem Kpv.mono {vs : List V} (e : Ex H H') (h : Kpv K C H0 vs H) : Kpv K C H0 vs H' := ⟨h.n, fun i v q z => pm_mono _ _ _ e (h.o i v q z), fun v q => let ⟨⟨fv, a⟩, b⟩ := h.f v q; ⟨⟨fv, fvAt_mono _ _ _ _ e a⟩, b⟩⟩
theorem Kpv.kp {vs : List V} (o : Off H s) (ki : KpI K H H') (k : Kp s H H') (n : ∀ v, vs[1]? = some v → v ≠ .ref s) (h : Kpv K C H0 vs H) : Kpv K C H0 vs H' := ⟨h.n, fun i v q z => (h.o i v q z).kp o k, fun v q => let ⟨⟨fv, a⟩, b⟩ := h.f v q; ⟨⟨fv, a.kp o ki k (n v q)⟩, b⟩⟩
theorem Kpv.set {vs : List V} {j : Nat} {y : V} (h : Kpv K C H0 vs H) (hp : Pm K H0 y H) (hf : ∃ fv, FvAt K C fv y H) : Kpv K C H0 (vs.set j y) H := by
  refine ⟨by rw [List.length_set, h.n], fun i v q z => ?_, fun v q => ?_⟩
  · rw [List.getElem?_set] at q
    split at q
    · split at q
      · cases q; exact hp
      · cases q
    · exact h.o i v q z
  · rw [List.getElem?_set] at q
    split at q
    · split at q
      · cases q; exact ⟨hf, let ⟨_, _, fr⟩ := hp; fr⟩
      · cases q
    · exact h.f v q
theorem pr_set {α : Type} {R : V → α → Prop} {x : V} {y : α} (r : R x y) : ∀ {xs : List V} {ys : List α} (j : Nat), Paired R xs ys → Paired R (xs.set j x) (ys.set j y)
  | _, _, _, .nil => .nil
  | _, _, 0, .cons _ t => .cons r t
  | _, _, j + 1, .cons a t => .cons a (pr_set r j t)
theorem pr_el : ∀ {xs : List V} {fs : List Fd}, Paired (fun x f => FAt K C f x H) xs fs → Paired (fun x e => ElAt K C e x H) xs (fs.map .fld)
  | _, _, .nil => .nil
  | _, _, .cons a r => .cons a (pr_el r)
/-- take(pen, n) == 0 -/
theorem tt_take {tn : TE} {p c : Addr} {k j : Nat} {E : XK} {n : Int} {Q : Bool → Hp → Prop} (hσ : σ[j]? = some (some (.ref p))) (hn : Ev tn σ H (.int n)) (hP : Pen H p c k) (hk : k ≤ 100000) (h0 : 0 < n) (h1 : n ≤ 10000000000000000)
    (kont : ∀ H' b, Kp p H H' → Pen H' p c (k + 1) → Q b H') : tTest (tOp rEq (tCall spTake [] E (tCons (tVar j) (tCons tn tNil))) (tC (.int 0))) σ H Q :=
  takeN hσ hn hP hk h0 h1 fun H' d K1 P1 _ _ => ⟨rfl, _, rfl, kont H' _ K1 P1⟩
theorem te_take {tn : TE} {p c : Addr} {k j : Nat} {E : XK} {n : Int} {Q : VK} (hσ : σ[j]? = some (some (.ref p))) (hn : Ev tn σ H (.int n)) (hP : Pen H p c k) (hk : k ≤ 100000) (h0 : 0 < n) (h1 : n ≤ 10000000000000000)
    (kont : ∀ H' b, Kp p H H' → Pen H' p c (k + 1) → Q (.bl b) H') : tOp rEq (tCall spTake [] E (tCons (tVar j) (tCons tn tNil))) (tC (.int 0)) σ H Q :=
  takeN hσ hn hP hk h0 h1 fun H' d K1 P1 _ _ => ⟨rfl, kont H' _ K1 P1⟩
theorem ite_b {A B : Prop} {b : Bool} (h1 : b = true → A) (h2 : b = false → B) : if b = true then A else B := by
  cases b with
  | true => exact h1 rfl
  | false => exact h2 rfl
theorem tt_and {t u : TT} {a : Bool} {Q : Bool → Hp → Prop} (h : EvT t σ H a) (h1 : a = true → ∀ H1, Ex H H1 → u σ H1 Q) (h2 : a = false → ∀ H1, Ex H H1 → Q false H1) : tAnd t u σ H Q := h H (Ex.refl H) _ fun H1 e => by
  cases a with
  | true => exact h1 rfl H1 e
  | false => exact h2 rfl H1 e
theorem el_catLV {ta tb : TE} {xs ys : List V} {p : Addr} (h : EvL ta σ H xs) (h2 : Ev tb σ H (.ref p)) (hp : H p = some (.lst ys)) (hl : xs.length + ys.length ≤ 100000) : EvL (tOp rCat ta tb) σ H (xs ++ ys) := fun H1 e Q q =>
  h H1 e _ fun p' H2 hn e2 h2' => h2 H2 (e.trans e2) _ fun H3 e3 => ⟨p', p, xs, ys, rfl, rfl, e3 _ _ h2', (e.trans (e2.trans e3)) _ _ hp, sz_of hl, fun t ht => q t _ (fresh_back (e2.trans e3) ht) ((e2.trans e3).trans (Ex.new ht)) upd_same⟩
end
def spKP (K : PySem.W.Frag) (C : Addr) : Sp := fun vs H Q _ => ∃ (p c ln lp : Addr) (k : Nat) (names pool : List Str), vs = [.ref p, .ref ln, .ref lp] ∧ Pen H p c k ∧ k ≤ 50000 ∧ Src H p ln lp names pool ∧ 0 < names.length ∧ 11 ≤ pool.length ∧ ∀ l H' vs, H l = none → Kp p H H' → Pen H' p c (k + 163) → H' l = some (.lst vs) → Kpv K C H vs H' → (∀ v, vs[1]? = some v → v ≠ .ref l) → Q (.ref l) H'
section
variable {P : Program} {w : World} {K : PySem.W.Frag} {mg : Str → Option Value} {base : Heap}
theorem ok_kind_parts (T : Txt P K mg) : FnG P w K mg base CX0 9 T.f_kind_parts T.d_kind_parts P_kind_parts (spKP K T.C_Field) := by
  have G_one_of := ok_one_of (P := P) (w := w) (base := base) T
  have G_right_fields := ok_right_fields (P := P) (w := w) (base := base) T
  have G_odd := ok_odd (P := P) (w := w) (base := base) T
  have G_take := ok_take (P := P) (w := w) (base := base) T
  refine okG T.F_kind_parts sc_kind_parts (fun vs H Q E h => ?_) (fun cdv A outer s H vs Q E hgd hr h => ?_)
  · obtain ⟨p, c, ln, lp, k, names, pool, rfl, _⟩ := h
    rfl
  · obtain ⟨p, c, ln, lp, k, names, pool, rfl, hP, hk, hS, hn0, hp11, kont⟩ := h
    refine ⟨_, (pss_cons (ps_set (i := 3) sc_kind_parts.nd rfl (Or.inl rfl) (pe_call G_one_of (hr.mono (by decide)) (by rfl) T.g_one_of T.F_one_of.kp T.B_one_of .nil pass0 (pa_cons (pv 0) (pa_cons (pv 1) pa_nil))))
      (pss_cons (ps_set (i := 4) sc_kind_parts.nd rfl (Or.inl rfl) (pe_call G_one_of (hr.mono (by decide)) (by rfl) T.g_one_of T.F_one_of.kp T.B_one_of .nil pass0 (pa_cons (pv 0) (pa_cons (pe_lst (pa_cons pe_int (pa_cons pe_int (pa_cons pe_int (pa_cons pe_int (pa_cons pe_int (pa_cons pe_int (pa_cons pe_int pa_nil)))))))) pa_nil))))
      (pss_cons (ps_set (i := 5) sc_kind_parts.nd rfl (Or.inl rfl) (Way.pe_callG G_right_fields hgd hr (by rfl) T.g_right_fields T.F_right_fields.kp T.B_right_fields .nil pass0 (pa_cons (pv 0) (pa_cons (pv 1) (pa_cons (pv 2) (pa_cons (pv 4) pa_nil))))))
      (pss_cut (ps_if (PW.pt (pw_and (pt_cmpR op_gt (pv 4) pe_int (nomark _)) (pw_and1 (pt_cmpR op_eq (pe_call G_take (hr.mono (by decide)) (by rfl) T.g_take T.F_take.kp T.B_take .nil pass0 (pa_cons (pv 0) (pa_cons pe_int pa_nil))) pe_int (nomark _))))) (pss_one (ps_asg (pe_ix ix_list (pv 5) (pe_call G_take (hr.mono (by decide)) (by rfl) T.g_take T.F_take.kp T.B_take .nil pass0 (pa_cons (pv 0) (pa_cons (pv 4) pa_nil))) (fun _ _ => rfl)) (pg_sub (pv 5) (pe_call G_take (hr.mono (by decide)) (by rfl) T.g_take T.F_take.kp T.B_take .nil pass0 (pa_cons (pv 0) (pa_cons (pv 4) pa_nil))) set_list))) pss_nil)
      (pss_cut (ps_if (PW.pt (pw_and (pt_cmpR op_gt (pv 4) pe_int (nomark _)) (pw_and1 (pt_cmpR op_eq (pe_call G_take (hr.mono (by decide)) (by rfl) T.g_take T.F_take.kp T.B_take .nil pass0 (pa_cons (pv 0) (pa_cons pe_int pa_nil))) pe_int (nomark _))))) (pss_one (ps_asg (pe_call G_odd (hr.mono (by decide)) (by rfl) T.g_odd T.F_odd.kp T.B_odd .nil pass0 (pa_cons (pv 0) pa_nil)) (pg_sub (pv 5) (pe_call G_take (hr.mono (by decide)) (by rfl) T.g_take T.F_take.kp T.B_take .nil pass0 (pa_cons (pv 0) (pa_cons (pv 4) pa_nil))) set_list))) pss_nil)
      (pss_cut (ps_if (pt_cmpR op_eq (pe_call G_take (hr.mono (by decide)) (by rfl) T.g_take T.F_take.kp T.B_take .nil pass0 (pa_cons (pv 0) (pa_cons pe_int pa_nil))) pe_int (nomark _)) (pss_one (ps_set (i := 5) sc_kind_parts.nd rfl (Or.inl rfl) (pe_callTy call_tuple_of (by rfl) T.b_tuple (by decide +kernel) (pa_cons (pv 5) pa_nil)))) pss_nil)
      (pss_cons (ps_set (i := 6) sc_kind_parts.nd rfl (Or.inl rfl) (pe_call G_one_of (hr.mono (by decide)) (by rfl) T.g_one_of T.F_one_of.kp T.B_one_of .nil pass0 (pa_cons (pv 0) (pa_cons (pe_op op_cat (pe_lst (pa_cons pe_non (pa_cons pe_non pa_nil))) (pv 1)) pa_nil))))
      (pss_cons (ps_set (i := 7) sc_kind_parts.nd rfl (Or.inl rfl) (pe_cmpR op_eq (pe_call G_take (hr.mono (by decide)) (by rfl) T.g_take T.F_take.kp T.B_take .nil pass0 (pa_cons (pv 0) (pa_cons pe_int pa_nil))) pe_int (nomark _)))
      (pss_cons (ps_set (i := 8) sc_kind_parts.nd rfl (Or.inl rfl) (pe_cmpR op_eq (pe_call G_take (hr.mono (by decide)) (by rfl) T.g_take T.F_take.kp T.B_take .nil pass0 (pa_cons (pv 0) (pa_cons pe_int pa_nil))) pe_int (nomark _)))
      (pss_cons (ps_set (i := 9) sc_kind_parts.nd rfl (Or.inl rfl) (pe_call G_one_of (hr.mono (by decide)) (by rfl) T.g_one_of T.F_one_of.kp T.B_one_of .nil pass0 (pa_cons (pv 0) (pa_cons (pe_op op_cat (pe_lst (pa_cons pe_non (pa_cons pe_non pa_nil))) (pv 2)) pa_nil))))
      (pss_cons (ps_set (i := 10) sc_kind_parts.nd rfl (Or.inl rfl) (pe_lst (pa_cons (pv 3) (pa_cons (pv 5) (pa_cons (pv 6) (pa_cons (pv 7) (pa_cons (pv 8) (pa_cons (pv 9) (pa_cons (pe_cmpR op_eq (pe_call G_take (hr.mono (by decide)) (by rfl) T.g_take T.F_take.kp T.B_take .nil pass0 (pa_cons (pv 0) (pa_cons pe_int pa_nil))) pe_int (nomark _)) pa_nil)))))))))
      (pss_cons (ps_for PassesOwn.never rfl (pi_range1 (by rfl) T.b_range (pa_cons (pe_call G_one_of (hr.mono (by decide)) (by rfl) T.g_one_of T.F_one_of.kp T.B_one_of .nil pass0 (pa_cons (pv 0) (pa_cons (pe_lst (pa_cons pe_int (pa_cons pe_int (pa_cons pe_int (pa_cons pe_int (pa_cons pe_int pa_nil)))))) pa_nil))) pa_nil)) (pg_name (i := 11) sc_kind_parts.nd rfl (Or.inl rfl)) (pss_one (ps_asg (pe_call G_odd (hr.mono (by decide)) (by rfl) T.g_odd T.F_odd.kp T.B_odd .nil pass0 (pa_cons (pv 0) pa_nil)) (pg_sub (pv 10) (pe_call G_take (hr.mono (by decide)) (by rfl) T.g_take T.F_take.kp T.B_take .nil pass0 (pa_cons (pv 0) (pa_cons pe_int pa_nil))) set_list))))
      (pss_one (ps_ret (pv 10))))))))))))))), ?_⟩
    have h13 := hS.p1
    have h14 := hS.n1
    refine q_any ⟨_, rfl, _, rfl, p, c, ln, k, _, rfl, hP, by omega, hS.hn, hS.np, by rw [List.length_map]; omega, by rw [List.length_map]; omega, fun H1 v hv K1 P1 => ?_⟩
    obtain ⟨nm, hnm, rfl⟩ := List.mem_map.mp hv
    have kn := hS.kn nm hnm
    refine q_any ⟨_, rfl, (el_lst (vs := [.int 0, .int 1, .int 2, .int 3, .int 4, .int 10, .int 11]) (ea_cons ev_c (ea_cons ev_c (ea_cons ev_c (ea_cons ev_c (ea_cons ev_c (ea_cons ev_c (ea_cons ev_c ea_nil))))))) (Nat.le_of_ble_eq_true rfl) : EvL _ _ H1 _) H1 (Ex.refl H1) _ fun l2 H2 hl2 X2 h2 => ?_⟩
    refine ⟨p, c, l2, k + 1, _, rfl, P1.mono X2, by omega, h2, P1.ne hl2, Nat.le_of_ble_eq_true rfl, Nat.le_of_ble_eq_true rfl, fun H3 v hv K3 P3 => ?_⟩
    obtain ⟨n, rfl, hn⟩ : ∃ n : Nat, v = .int (n : Int) ∧ n ≤ 11 := by
      simp only [List.mem_cons, List.not_mem_nil, or_false] at hv
      rcases hv with rfl | rfl | rfl | rfl | rfl | rfl | rfl
      · exact ⟨0, rfl, by decide⟩
      · exact ⟨1, rfl, by decide⟩
      · exact ⟨2, rfl, by decide⟩
      · exact ⟨3, rfl, by decide⟩
      · exact ⟨4, rfl, by decide⟩
      · exact ⟨10, rfl, by decide⟩
      · exact ⟨11, rfl, by decide⟩
    have K03 : Kp p H H3 := Kp.trans K1 (Kp.trans (Kp.of X2) K3)
    refine q_any ⟨_, rfl, _, rfl, _, rfl, _, rfl, p, c, ln, lp, k + 2, n, names, pool, rfl, P3, by omega, hS.kp K03, by omega, by omega, fun lf H4 xs4 fs4 hlf K4 P4 h4 pr4 lfs4 => ?_⟩
    have nlf : lf ≠ p := P3.ne hlf
    have nlc : lf ≠ c := P3.neC hlf
    have hlf0 : H lf = none := Kp.free K03 nlf hlf
    have K04 := Kp.trans K03 K4
    have P4' := P4.le (k := k + 146) (by omega)
    refine q_cut (M := fun σ' H' => ∃ xs fs, σ' = [some (.ref p), some (.ref ln), some (.ref lp), some (.str nm), some (.int (n : Int)), some (.ref lf), none, none, none, none, none, none] ∧ H' lf = some (.lst xs) ∧ Paired (fun x f => FAt K T.C_Field f x H') xs fs ∧ fs.length = n ∧ Kp p H H' ∧ Pen H' p c (k + 149)) ?_ ?_
    · refine tt_and (et_test (ev_op (ev_var rfl) ev_c rv_I0)) (fun q H5 X5 => ?_) (fun q H5 X5 => ite_b (fun z => nomatch z) fun _ => ?_)
      · have q' : 1 < n := by have := of_decide_eq_true q; omega
        refine tt_take (n := 8) rfl ev_c (P4'.mono X5) (by omega) (by decide) (by decide) fun H6 b K6 P6 => ?_
        have K46 : Kp p H4 H6 := Kp.trans (Kp.of X5) K6
        obtain ⟨kvs, hkv⟩ := P4.here
        refine ite_b (fun _ => ?_) fun _ => ?_
        · refine ⟨_, rfl, takeN (n := (n : Int)) rfl (ev_var rfl) P6 (by omega) (by omega) (by omega) fun H7 i K7 P7 i0 i1 => ?_⟩
          have lx4 : xs4.length = n := (Paired.length pr4).trans lfs4
          have hi : i.toNat < xs4.length := by omega
          have h7 := K7 _ _ nlf (K46 _ _ nlf h4)
          refine ⟨lf, _, _, _, rfl, rfl, SqL.of h7, at_of (j := i.toNat) (by omega) (List.getElem?_eq_getElem hi), ⟨_, rfl, takeN (n := (n : Int)) rfl (ev_var rfl) P7 (by omega) (by omega) (by omega) fun H8 j K8 P8 j0 j1 => ?_⟩⟩
          obtain ⟨f, hf, pf⟩ := pr_at pr4 (List.getElem?_eq_getElem hi)
          have h8 := K8 _ _ nlf h7
          have K48 : Kp p H4 H8 := Kp.trans K46 (Kp.trans K7 K8)
          refine ⟨lf, xs4, j, j.toNat, rfl, rfl, h8, by
            have := ixN_nat (n := xs4.length) (j := j.toNat) (by omega)
            rw [show ((j.toNat : Nat) : Int) = j by omega] at this
            exact this, ?_⟩
          have KI : KpI K H4 H8 := kpi_dK hkv K48
          have KI2 : KpI K H8 (upd H8 lf (.lst (xs4.set j.toNat xs4[i.toNat]))) := kpi_lst h8 (Kp.set (Kp.refl _ _))
          exact ⟨_, fs4.set j.toNat f, rfl, upd_same, pr_set (R := fun x f => FAt K T.C_Field f x (upd H8 lf (.lst (xs4.set j.toNat xs4[i.toNat])))) ((pf.keep KI).keep KI2) _ (Paired.mapP pr4 fun _ _ q => (q.keep KI).keep KI2), by rw [List.length_set, lfs4], Kp.new (Kp.trans K04 K48) hlf0, (P8.upd nlf nlc).le (by omega)⟩
        · have KI : KpI K H4 H6 := kpi_dK hkv K46
          exact ⟨xs4, fs4, rfl, K46 _ _ nlf h4, Paired.mapP pr4 fun _ _ q => q.keep KI, lfs4, Kp.trans K04 K46, P6.le (by omega)⟩
      · exact ⟨xs4, fs4, rfl, X5 _ _ h4, Paired.mapP pr4 fun _ _ q => q.mono X5, lfs4, Kp.trans K04 (Kp.of X5), (P4'.mono X5).le (by omega)⟩
    · rintro σ' H5 ⟨xs5, fs5, rfl, h5, pr5, lfs5, K05, P5⟩
      refine q_cut (M := fun σ' H' => ∃ xs es, σ' = [some (.ref p), some (.ref ln), some (.ref lp), some (.str nm), some (.int (n : Int)), some (.ref lf), none, none, none, none, none, none] ∧ H' lf = some (.lst xs) ∧ Paired (fun x e => ElAt K T.C_Field e x H') xs es ∧ es.length = n ∧ Kp p H H' ∧ Pen H' p c (k + 152)) ?_ ?_
      · refine tt_and (et_test (ev_op (ev_var rfl) ev_c rv_I0)) (fun q H6 X6 => ?_) (fun q H6 X6 => ite_b (fun z => nomatch z) fun _ => ?_)
        · have q' : 0 < n := by have := of_decide_eq_true q; omega
          refine tt_take (n := 8) rfl ev_c (P5.mono X6) (by omega) (by decide) (by decide) fun H7 b K7 P7 => ?_
          have K57 : Kp p H5 H7 := Kp.trans (Kp.of X6) K7
          obtain ⟨kvs, hkv⟩ := P5.here
          refine ite_b (fun _ => ?_) fun _ => ?_
          · refine ⟨_, rfl, p, c, k + 150, rfl, P7, by omega, fun H8 y K8 P8 od => ⟨_, rfl, takeN (n := (n : Int)) rfl (ev_var rfl) P8 (by omega) (by omega) (by omega) fun H9 j K9 P9 j0 j1 => ?_⟩⟩
            have lx5 : xs5.length = n := (Paired.length pr5).trans lfs5
            have K79 : Kp p H7 H9 := Kp.trans K8 K9
            have h7 := K57 _ _ nlf h5
            have h9 := K79 _ _ nlf h7
            refine ⟨lf, xs5, j, j.toNat, rfl, rfl, h9, by
              have := ixN_nat (n := xs5.length) (j := j.toNat) (by omega)
              rw [show ((j.toNat : Nat) : Int) = j by omega] at this
              exact this, ?_⟩
            have KI : KpI K H5 H9 := kpi_dK hkv (Kp.trans K57 K79)
            have KI2 : KpI K H9 (upd H9 lf (.lst (xs5.set j.toNat y))) := kpi_lst h9 (Kp.set (Kp.refl _ _))
            obtain ⟨d, pm, f1, fr⟩ := od.kp (Pen.off P8) K9
            have pe' : PV K (upd H9 lf (.lst (xs5.set j.toNat y))) y d := od_set pm.p f1 (s := lf) (fun a e z => by
              have := fr a e
              rw [z, h7] at this; cases this) (Kp.set (Kp.refl _ _))
            exact ⟨_, (fs5.map El.fld).set j.toNat (.dat d), rfl, upd_same, pr_set (R := fun x e => ElAt K T.C_Field e x (upd H9 lf (.lst (xs5.set j.toNat y)))) (y := El.dat d) pe' _ (pr_el (Paired.mapP pr5 fun _ _ q => (q.keep KI).keep KI2)), by rw [List.length_set, List.length_map, lfs5], Kp.new (Kp.trans K05 (Kp.trans K57 K79)) hlf0, (P9.upd nlf nlc).le (by omega)⟩
          · have KI : KpI K H5 H7 := kpi_dK hkv K57
            exact ⟨xs5, fs5.map .fld, rfl, K57 _ _ nlf h5, pr_el (Paired.mapP pr5 fun _ _ q => q.keep KI), by rw [List.length_map, lfs5], Kp.trans K05 K57, P7.le (by omega)⟩
        · exact ⟨xs5, fs5.map .fld, rfl, X6 _ _ h5, pr_el (Paired.mapP pr5 fun _ _ q => q.mono X6), by rw [List.length_map, lfs5], Kp.trans K05 (Kp.of X6), (P5.mono X6).le (by omega)⟩
      · rintro σ' H6 ⟨xs6, es6, rfl, h6, pr6, les6, K06, P6⟩
        refine q_cut (M := fun σ' H' => ∃ v fv, σ' = [some (.ref p), some (.ref ln), some (.ref lp), some (.str nm), some (.int (n : Int)), some v, none, none, none, none, none, none] ∧ FvAt K T.C_Field fv v H' ∧ (∀ a, v = .ref a → H a = none ∧ ∃ o, H' a = some o) ∧ Kp p H H' ∧ Pen H' p c (k + 153)) ?_ ?_
        · refine tt_take (n := 2) rfl ev_c P6 (by omega) (by decide) (by decide) fun H7 b K7 P7 => ?_
          obtain ⟨kvs, hkv⟩ := P6.here
          have KI : KpI K H6 H7 := kpi_dK hkv K7
          have h7 := K7 _ _ nlf h6
          have pr7 : Paired (fun x e => ElAt K T.C_Field e x H7) xs6 es6 := Paired.mapP pr6 fun _ _ q => elAt_kp (Pen.off P6) KI K7 q
          refine ite_b (fun _ => ?_) fun _ => ?_
          · refine ⟨_, rfl, lf, xs6, rfl, .inl ⟨SqL.of h7, fun t ht => ?_⟩⟩
            have ntp : t ≠ p := P7.ne ht
            exact ⟨.ref t, .seq false es6, rfl, ⟨t, xs6, rfl, SqT.of upd_same, Paired.mapP pr7 fun _ _ q => elAt_mono _ _ _ _ (Ex.new ht) q⟩, fun a e => by
              cases e
              exact ⟨Kp.free (Kp.trans K06 K7) ntp ht, _, upd_same⟩, Kp.trans (Kp.trans K06 K7) (Kp.of (Ex.new ht)), P7.mono (Ex.new ht)⟩
          · exact ⟨.ref lf, .seq true es6, rfl, ⟨lf, xs6, rfl, h7, pr7⟩, fun a e => by
              cases e
              exact ⟨hlf0, _, h7⟩, Kp.trans K06 K7, P7⟩
        · rintro σ' H7 ⟨fv1, fvd, rfl, hfv, ffr, K07, P7⟩
          have S7 := hS.kp K07
          refine q_any ⟨_, rfl, (el_catLV (el_lst (vs := [.non, .non]) (ea_cons ev_c (ea_cons ev_c ea_nil)) (Nat.le_of_ble_eq_true rfl)) (ev_var rfl) S7.hn (by rw [List.length_map]; show 2 + names.length ≤ _; omega) : EvL _ _ H7 _) H7 (Ex.refl H7) _ fun l8 H8 hl8 X8 h8 => ?_⟩
          refine ⟨p, c, l8, k + 153, _, rfl, P7.mono X8, by omega, h8, P7.ne hl8, by rw [List.length_append]; exact Nat.lt_of_lt_of_le (by decide : 0 < 2) (Nat.le_add_right _ _), by rw [List.length_append, List.length_map]; show 2 + names.length ≤ _; omega, fun H9 bs hbs K9 P9 => ?_⟩
          have pbs : ∀ Hx, Pm K H bs Hx := fun Hx => by
            rcases List.mem_append.mp hbs with h | h
            · simp only [List.mem_cons, List.not_mem_nil, or_false, or_self] at h
              subst h
              exact ⟨.none, ⟨.dp .non rfl, fun ds z => nomatch z⟩, fun a z => nomatch z⟩
            · obtain ⟨x, hx, rfl⟩ := List.mem_map.mp h
              exact pm_str (knS_pl (hS.kn x hx))
          refine q_any (te_take (n := 4) rfl ev_c P9 (by omega) (by decide) (by decide) fun H10 fz K10 P10 => ?_)
          refine q_any (te_take (n := 4) rfl ev_c P10 (by omega) (by decide) (by decide) fun H11 hh K11 P11 => ?_)
          have K711 : Kp p H7 H11 := Kp.trans (Kp.trans (Kp.of X8) K9) (Kp.trans K10 K11)
          have S11 := S7.kp K711
          refine q_any ⟨_, rfl, (el_catLV (el_lst (vs := [.non, .non]) (ea_cons ev_c (ea_cons ev_c ea_nil)) (Nat.le_of_ble_eq_true rfl)) (ev_var rfl) S11.hp (by rw [List.length_map]; show 2 + pool.length ≤ _; omega) : EvL _ _ H11 _) H11 (Ex.refl H11) _ fun l12 H12 hl12 X12 h12 => ?_⟩
          refine ⟨p, c, l12, k + 156, _, rfl, P11.mono X12, by omega, h12, P11.ne hl12, by rw [List.length_append]; exact Nat.lt_of_lt_of_le (by decide : 0 < 2) (Nat.le_add_right _ _), by rw [List.length_append, List.length_map]; show 2 + pool.length ≤ _; omega, fun H13 ky hky K13 P13 => ?_⟩
          have pky : ∀ Hx, Pm K H ky Hx := fun Hx => by
            rcases List.mem_append.mp hky with h | h
            · simp only [List.mem_cons, List.not_mem_nil, or_false, or_self] at h
              subst h
              exact ⟨.none, ⟨.dp .non rfl, fun ds z => nomatch z⟩, fun a z => nomatch z⟩
            · obtain ⟨x, hx, rfl⟩ := List.mem_map.mp h
              exact pm_str (fnS_pl (hS.fn x hx))
          refine q_any ⟨_, rfl, _, rfl, _, rfl, _, rfl, _, rfl, _, rfl, te_take (n := 4) rfl ev_c P13 (by omega) (by decide) (by decide) fun H14 rg K14 P14 => ⟨Nat.le_of_ble_eq_true rfl, fun l hl => ?_⟩⟩
          have K714 : Kp p H7 H14 := Kp.trans K711 (Kp.trans (Kp.of X12) (Kp.trans K13 K14))
          have nlp : l ≠ p := P14.ne hl
          have nlc' : l ≠ c := P14.neC hl
          have K014 : Kp p H H14 := Kp.trans K07 K714
          have nl0 : H l = none := Kp.free K014 nlp hl
          obtain ⟨kvs, hkv⟩ := P7.here
          have hfv14 : FvAt K T.C_Field fvd fv1 H14 := hfv.kp (Pen.off P7) (kpi_dK hkv K714) K714 fun z => by
            have := (ffr p z).1
            obtain ⟨kv2, hq⟩ := hP.here
            rw [hq] at this; cases this
          have pbl : ∀ (b : Bool) Hx, Pm K H (.bl b) Hx := fun b Hx => ⟨.bool b, ⟨.dp (.bl b) rfl, fun ds z => nomatch z⟩, fun a z => nomatch z⟩
          have hK : Kpv K T.C_Field H [.str nm, fv1, bs, .bl fz, .bl hh, ky, .bl rg] (upd H14 l (.lst [.str nm, fv1, bs, .bl fz, .bl hh, ky, .bl rg])) := by
            refine ⟨rfl, fun i v q z => ?_, fun v q => ?_⟩
            · match i, q, z with
              | 0, q, _ => cases q; exact pm_str (knS_pl kn)
              | 1, _, z => exact absurd rfl z
              | 2, q, _ => cases q; exact pbs _
              | 3, q, _ => cases q; exact pbl _ _
              | 4, q, _ => cases q; exact pbl _ _
              | 5, q, _ => cases q; exact pky _
              | 6, q, _ => cases q; exact pbl _ _
            · cases q
              exact ⟨⟨fvd, fvAt_mono _ _ _ _ (Ex.new hl) hfv14⟩, fun a e => (ffr a e).1⟩
          have hh15 : (upd H14 l (.lst [.str nm, fv1, bs, .bl fz, .bl hh, ky, .bl rg])) l = some (.lst [.str nm, fv1, bs, .bl fz, .bl hh, ky, .bl rg]) := upd_same
          have P15 : Pen (upd H14 l (.lst [.str nm, fv1, bs, .bl fz, .bl hh, ky, .bl rg])) p c (k + 158) := P14.upd nlp nlc'
          have K015 : Kp p H (upd H14 l (.lst [.str nm, fv1, bs, .bl fz, .bl hh, ky, .bl rg])) := Kp.new K014 nl0
          have hv1 : ∀ v, [V.str nm, fv1, bs, .bl fz, .bl hh, ky, .bl rg][1]? = some v → v ≠ .ref l := fun v q z => by
            cases q
            obtain ⟨h0, o, ho⟩ := ffr l z
            rw [K714 _ _ nlp ho] at hl; cases hl
          revert hK hh15 P15 K015 hv1
          generalize upd H14 l (.lst [.str nm, fv1, bs, .bl fz, .bl hh, ky, .bl rg]) = H15
          generalize [V.str nm, fv1, bs, .bl fz, .bl hh, ky, .bl rg] = vs0
          intro hK hh15 P15 K015 hv1
          refine for_seq ⟨_, rfl, (el_lst (vs := [.int 0, .int 0, .int 0, .int 1, .int 2]) (ea_cons ev_c (ea_cons ev_c (ea_cons ev_c (ea_cons ev_c (ea_cons ev_c ea_nil))))) (Nat.le_of_ble_eq_true rfl) : EvL _ _ H15 _) H15 (Ex.refl H15) _ fun l3 H16 hl3 X16 h16 => ?_⟩
          refine ⟨p, c, l3, k + 158, _, rfl, P15.mono X16, by omega, h16, P15.ne hl3, Nat.le_of_ble_eq_true rfl, Nat.le_of_ble_eq_true rfl, fun H17 v hv K17 P17 => ?_⟩
          obtain ⟨m, rfl, m2⟩ : ∃ m : Nat, v = .int (m : Int) ∧ m ≤ 2 := by
            simp only [List.mem_cons, List.not_mem_nil, or_false] at hv
            rcases hv with rfl | rfl | rfl | rfl | rfl
            · exact ⟨0, rfl, by decide⟩
            · exact ⟨0, rfl, by decide⟩
            · exact ⟨0, rfl, by decide⟩
            · exact ⟨1, rfl, by decide⟩
            · exact ⟨2, rfl, by decide⟩
          have K1517 : Kp p H15 H17 := Kp.trans (Kp.of X16) K17
          have np : ∀ {vs : List V} {Hx : Hp}, Kpv K T.C_Field H vs Hx → ∀ v, vs[1]? = some v → v ≠ .ref p := fun h v q z => by
            have := (h.f v q).2 p z
            obtain ⟨kv2, hq⟩ := hP.here
            rw [hq] at this; cases this
          have kpP : ∀ {vs : List V} {Hx Hy : Hp} {kk : Nat}, Pen Hx p c kk → Kp p Hx Hy → Kpv K T.C_Field H vs Hx → Kpv K T.C_Field H vs Hy := fun hp hk h => by
            obtain ⟨kv2, hq⟩ := hp.here
            exact h.kp (Pen.off hp) (kpi_dK hq hk) hk (np h)
          refine q_forR1 (n := (m : Int)) ea_giv (by omega) (fun i σ H' => ∃ vs v11, σ = [some (.ref p), some (.ref ln), some (.ref lp), some (.str nm), some (.int (n : Int)), some fv1, some bs, some (.bl fz), some (.bl hh), some ky, some (.ref l), v11] ∧ H' l = some (.lst vs) ∧ Kpv K T.C_Field H vs H' ∧ (∀ v, vs[1]? = some v → v ≠ .ref l) ∧ Kp p H H' ∧ Pen H' p c (k + 159 + 2 * i))
            (fun H18 X18 => ⟨vs0, none, rfl, X18 _ _ (K1517 _ _ nlp hh15), (kpP P15 K1517 hK).mono X18, ?_, Kp.trans K015 (Kp.trans K1517 (Kp.of X18)), P17.mono X18⟩) ?_ ?_
          · intro v q
            exact hv1 v q
          · rintro i σ' H' hi ⟨vs, v11, rfl, i1, i2, i3, i4, i5⟩
            refine ⟨_, rfl, p, c, k + 159 + 2 * i, rfl, i5, by omega, fun H18 y K18 P18 od => ⟨_, rfl, takeN (n := 7) rfl ev_c P18 (by omega) (by decide) (by decide) fun H19 d K19 P19 d0 d1 => ?_⟩⟩
            have K1819 := Kp.trans K18 K19
            have hl19 := K1819 _ _ nlp i1
            have n7 := i2.n
            refine ⟨l, vs, d, d.toNat, rfl, rfl, hl19, by
              have := ixN_nat (n := vs.length) (j := d.toNat) (by omega)
              rw [show ((d.toNat : Nat) : Int) = d by omega] at this
              exact this, ?_⟩
            have K20 : Kp l H19 (upd H19 l (.lst (vs.set d.toNat y))) := Kp.set (Kp.refl _ _)
            have off19 : Off H19 l := off_lst hl19 (by omega)
            have od19 := od.kp (Pen.off P18) K19
            have nyl : y ≠ .ref l := fun z => by
              obtain ⟨_, _, _, fr⟩ := od
              have := fr l z
              rw [i1] at this; cases this
            have KI20 : KpI K H19 (upd H19 l (.lst (vs.set d.toNat y))) := kpi_lst hl19 K20
            refine ⟨vs.set d.toNat y, _, rfl, upd_same, ?_, fun v q => ?_, Kp.new (Kp.trans i4 K1819) nl0, (P19.upd nlp nlc').le (by omega)⟩
            · refine ((kpP i5 K1819 i2).kp off19 KI20 K20 i3).set (Pm.kp off19 K20 (od19.pm.le fun a h => Kp.free i4 (i5.ne h) h)) ?_
              obtain ⟨fv, hf⟩ := od_fv (C := T.C_Field) od19
              exact ⟨fv, hf.kp off19 KI20 K20 nyl⟩
            · rw [List.getElem?_set] at q
              split at q
              · split at q
                · cases q; exact nyl
                · cases q
              · exact i3 v q
          · rintro σ' H' ⟨vs, v11, rfl, i1, i2, i3, i4, i5⟩
            exact s_ret (ev_var rfl) fun H18 X18 => kont l H18 vs nl0 (Kp.trans i4 (Kp.of X18)) ((i5.mono X18).le (by omega)) (X18 _ _ i1) (i2.mono X18) i3
end
end K01

namespace K01
open PySem L2 Way Evl
theorem pe_cnt {X : Cx} {K : PySem.W.Frag} {o e : Expr} {to te : TE} {apos cpos : Pos} (h : X.K = K) (ho : PE X o to) (he : PE X e te) (hbase : attributeBase o "count" X.env (eval o X.env) = eval o X.env := by rfl)
    (hfew : ((backTo cpos (starEach [e] X.env)).all (fun x => !x.1) && (backToKw cpos (keywordEach [] X.env)).all (fun x => x.1.isSome) && decide (([e] : List Expr).length + ([] : List Keyword).length + (if ([] : List Keyword).isEmpty then 0 else 1) < 30)) = true := by rfl)
    (hline : (apos.endLine == cpos.line) = true := by rfl) (hs : starEach [e] X.env = (false, eval e X.env) :: starEach [] X.env := by rfl) : PE X (.Call (.Attribute o "count" apos) [e] [] cpos) (tBM K "list" (rCntS K) to (tCons te tNil)) := by
  subst h
  exact pe_bm PySem.F.plainAttrs_list PySem.F.slot_list_count PySem.F.type_list_count Way.mt_cntS ho (pa_cons he pa_nil hs) hbase hfew hline hs rfl
/-! names that are apart -/
theorem any_mem {xs : List Str} {k : Str} : xs.any (· == k) = true ↔ k ∈ xs := by
  rw [List.any_eq_true]
  constructor
  · rintro ⟨x, hx, e⟩
    have := eq_of_beq e
    subst this
    exact hx
  · intro h
    exact ⟨k, h, beq_self_eq_true k⟩
theorem dn_full {xs : List Str} : ∀ {n : Nat}, dn xs n = n → ∀ i, i < n → xs.getD i Str.empty ∉ xs.take i
  | 0, _, i, h => absurd h (Nat.not_lt_zero i)
  | n + 1, e, i, h => by
    have hl := dn_le xs n
    unfold dn at e
    split at e
    · omega
    · rename_i q
      have e' : dn xs n = n := by omega
      rcases Nat.lt_or_ge i n with z | z
      · exact dn_full e' i z
      · have : i = n := by omega
        subst this
        intro m
        exact q (any_mem.mpr m)
theorem full_dn {xs : List Str} : ∀ {n : Nat}, (∀ i, i < n → xs.getD i Str.empty ∉ xs.take i) → dn xs n = n
  | 0, _ => rfl
  | n + 1, h => by
    unfold dn
    have := full_dn (n := n) fun i hi => h i (by omega)
    split
    · rename_i q
      exact absurd (any_mem.mp q) (h n (by omega))
    · omega
theorem cnt_le {xs : List Str} (h : ∀ i, i < xs.length → xs.getD i Str.empty ∉ xs.take i) (x : Str) : ∀ n, n ≤ xs.length → (xs.take n).count x ≤ 1
  | 0, _ => by simp
  | n + 1, hn => by
    have ih := cnt_le h x n (by omega)
    have e1 : xs.take (n + 1) = xs.take n ++ [xs[n]] := by rw [List.take_add_one, List.getElem?_eq_getElem (by omega)]; rfl
    have e2 : xs.getD n Str.empty = xs[n] := by rw [List.getD_eq_getElem?_getD, List.getElem?_eq_getElem (by omega)]; rfl
    have hm := h n (by omega)
    rw [e2] at hm
    rw [e1, List.count_append]
    by_cases e : xs[n] = x
    · subst e
      rw [List.count_eq_zero.mpr hm]
      simp
    · have : [xs[n]].count x = 0 := List.count_eq_zero.mpr fun m => e (List.mem_singleton.mp m).symm
      omega
theorem nod_cnt (ns : List Str) : nodS ns = !decide ((0 : Int) < ((ns.filter fun x => decide ((1 : Int) < ((ns.count x : Nat) : Int))).length : Int)) := by
  unfold nodS
  by_cases h : ∀ i, i < ns.length → ns.getD i Str.empty ∉ ns.take i
  · rw [decide_eq_true (by rw [full_dn h])]
    have : (ns.filter fun x => decide ((1 : Int) < ((ns.count x : Nat) : Int))) = [] := by
      rw [List.filter_eq_nil_iff]
      intro x hx
      have := cnt_le h x ns.length (Nat.le_refl _)
      rw [List.take_length] at this
      simp
      omega
    rw [this]; rfl
  · have h' : ∃ i, i < ns.length ∧ ns.getD i Str.empty ∈ ns.take i := by
      apply Classical.byContradiction
      intro q
      exact h fun i hi hm => q ⟨i, hi, hm⟩
    obtain ⟨i, hi, hm⟩ := h'
    rw [decide_eq_false (fun e => dn_full (by omega : dn ns ns.length = ns.length) i hi hm)]
    have e2 : ns.getD i Str.empty = ns[i] := by rw [List.getD_eq_getElem?_getD, List.getElem?_eq_getElem hi]; rfl
    rw [e2] at hm
    have hc : 1 < ns.count ns[i] := by
      have e : ns = ns.take i ++ ns[i] :: ns.drop (i + 1) := by rw [← List.drop_eq_getElem_cons hi, List.take_append_drop]
      have e3 : ns.count ns[i] = (ns.take i).count ns[i] + (ns[i] :: ns.drop (i + 1)).count ns[i] := by
        rw [← List.count_append, ← e]
      rw [e3, List.count_cons_self]
      have := List.count_pos_iff.mpr hm
      omega
    have : ns[i] ∈ ns.filter fun x => decide ((1 : Int) < ((ns.count x : Nat) : Int)) := List.mem_filter.mpr ⟨List.getElem_mem hi, decide_eq_true (by omega)⟩
    have := List.length_pos_of_mem this
    rw [decide_eq_true (by omega)]; rfl
theorem fld_flt (es : List El) : decide ((0 : Int) < ((es.filter fun e => !isFld e).length : Int)) = !es.all isFld := by
  induction es with
  | nil => rfl
  | cons e r ih =>
    rw [List.filter_cons, List.all_cons]
    cases h : isFld e with
    | true => simpa using ih
    | false => simp
structure Kv7 (K : PySem.W.Frag) (C : Addr) (H : Hp) (l : Addr) (v0 v1 v2 v3 v4 v5 v6 : V) (dn : PyData) (fv : Fv) (db dz dh dk dr : PyData) : Prop where
  hl : H l = some (.lst [v0, v1, v2, v3, v4, v5, v6])
  n : PV K H v0 dn
  f : FvAt K C fv v1 H
  b : PV K H v2 db
  z : PV K H v3 dz
  h : PV K H v4 dh
  k : PV K H v5 dk
  r : PV K H v6 dr
theorem Kv7.mono {K : PySem.W.Frag} {C : Addr} {H H' : Hp} {l : Addr} {v0 v1 v2 v3 v4 v5 v6 : V} {dn db dz dh dk dr : PyData} {fv : Fv} (q : Kv7 K C H l v0 v1 v2 v3 v4 v5 v6 dn fv db dz dh dk dr) (e : Ex H H') : Kv7 K C H' l v0 v1 v2 v3 v4 v5 v6 dn fv db dz dh dk dr := ⟨e _ _ q.hl, q.n.mono e, fvAt_mono _ _ _ _ e q.f, q.b.mono e, q.z.mono e, q.h.mono e, q.k.mono e, q.r.mono e⟩
theorem s_mkK5 {H : Hp} {σ : L2.St} {v0 v1 v2 v3 v4 v5 v6 : V} {C : Addr} {m : Nat} {sp : Sp} {D : Ends} {t tk : TA} {E : XK} (h1 : EvA t σ H [v0, v1]) (h2 : EvA tk σ H [v2, v3, v4, v5, v6]) (hm : m = 5) (k : ∀ H2, Ex H H2 → ∀ x dx, H2 x = none → H2 dx = none → dx ≠ x → sp [.ref x, v0, v1, v2, v3, v4, v5, v6] (upd (upd H2 dx (.own x)) x (.ins C dx [])) (fun v H3 => v = .non ∧ D.rt (.ref x) H3) E) :
    tRet (tMakeK C 2 m sp (fun vs zs => gUW vs [] zs) E t tk) D σ H := h1 H (Ex.refl H) _ fun H1 X1 => h2 H1 X1 _ fun H2 X2 => ⟨rfl, hm.symm, fun x dx hx hd hn => k H2 (X1.trans X2) x dx hx hd hn⟩
def spKR (K : PySem.W.Frag) (C : Addr) : Sp := fun vs H Q _ => ∃ (l : Addr) (v0 v1 v2 v3 v4 v5 v6 : V) (dn : PyData) (fv : Fv) (db dz dh dk dr : PyData), vs = [.ref l] ∧ Kv7 K C H l v0 v1 v2 v3 v4 v5 v6 dn fv db dz dh dk dr ∧ ∀ H', Ex H H' → Q (.bl (fKR dn fv db dz dh dk dr)) H'
def spKM (K : PySem.W.Frag) (CF CK CB : Addr) : Sp := fun vs H Q E => ∃ (l : Addr) (v0 v1 v2 v3 v4 v5 v6 : V) (dn : PyData) (fv : Fv) (db dz dh dk dr : PyData), vs = [.ref l] ∧ Kv7 K CF H l v0 v1 v2 v3 v4 v5 v6 dn fv db dz dh dk dr ∧
  (fKR dn fv db dz dh dk dr = true → ∀ kd v H', KdD kd dn fv db dz dh dk dr → Ex H H' → KAt K CF CK kd v H' → Q v H') ∧ (fKR dn fv db dz dh dk dr = false → ∀ d H', Ex H H' → H' d = some (.xd [("name", v0)]) → E (.ref CB) (some d) H')
section
variable {P : Program} {w : World} {K : PySem.W.Frag} {mg : Str → Option Value} {base : Heap}
theorem ok_kind_made (T : Txt P K mg) : FnOk P w K mg base (L2N.CX P w) 5 T.f_kind_made T.d_kind_made P_kind_made (spKM K T.C_Field T.C_Kind T.C_BadKind) := by
  have G_Kind_init := ok_Kind_init (P := P) (w := w) (base := base) T
  obtain ⟨mv, kb_Kind_init_0⟩ := kbK T
  refine Way.okN T.F_kind_made sc_kind_made (fun vs H Q E h => ?_) (fun cdv A outer s H vs Q E hr h => ?_)
  · obtain ⟨l, v0, v1, v2, v3, v4, v5, v6, dn, fv, db, dz, dh, dk, dr, rfl, _⟩ := h
    rfl
  · obtain ⟨l, v0, v1, v2, v3, v4, v5, v6, dn, fv, db, dz, dh, dk, dr, rfl, g, kq, ke⟩ := h
    refine ⟨_, (pss_cons (ps_asg (pv 0) (pg_lst rfl (pgs_cons (pg_name (i := 1) sc_kind_made.nd rfl (Or.inl rfl)) (pgs_cons (pg_name (i := 2) sc_kind_made.nd rfl (Or.inl rfl)) (pgs_cons (pg_name (i := 3) sc_kind_made.nd rfl (Or.inl rfl)) (pgs_cons (pg_name (i := 4) sc_kind_made.nd rfl (Or.inl rfl)) (pgs_cons (pg_name (i := 5) sc_kind_made.nd rfl (Or.inl rfl)) (pgs_cons (pg_name (i := 6) sc_kind_made.nd rfl (Or.inl rfl)) (pgs_cons (pg_name (i := 7) sc_kind_made.nd rfl (Or.inl rfl)) pgs_nil)))))))))
      (pss_one (ps_ret (pe_makeK T.M_Kind G_Kind_init (hr.mono (by decide)) (by rfl) T.g_Kind kb_Kind_init_0 (L2N.passes_call (L2N.takes_of rfl rfl rfl rfl) fun _ _ _ _ h => h) (pa_cons (pv 1) (pa_cons (pv 2) pa_nil)) (pk_cons (pv 3) (pk_cons (pv 4) (pk_cons (pv 5) (pk_cons (pv 6) (pk_cons (pv 7) pk_nil))))))))), ?_⟩
    refine ⟨_, rfl, ⟨l, _, rfl, SqL.of g.hl, rfl, ⟨_, _, rfl, _, _, rfl, _, _, rfl, _, _, rfl, _, _, rfl, _, _, rfl, _, _, rfl, rfl, ?_⟩⟩⟩
    refine s_mkK5 (ea_cons (ev_var rfl) (ea_cons (ev_var rfl) ea_nil)) (ea_cons (ev_var rfl) (ea_cons (ev_var rfl) (ea_cons (ev_var rfl) (ea_cons (ev_var rfl) (ea_cons (ev_var rfl) ea_nil))))) rfl fun H2 X12 x dx hx hd hn => ?_
    have X : Ex H2 (upd (upd H2 dx (.own x)) x (.ins T.C_Kind dx [])) := fun b o e => by
      rw [upd_ne (ne_of_none e hx), upd_ne (ne_of_none e hd)]; exact e
    have X' := X12.trans X
    have g' := g.mono X'
    exact ⟨x, dx, v0, v1, v2, v3, v4, v5, v6, dn, fv, db, dz, dh, dk, dr, rfl, upd_same, g'.n, g'.f, g'.b, g'.z, g'.h, g'.k, g'.r, fun kd hk hr' H' k hK => ⟨rfl, kq hr' kd _ H' hk (fun b o e => k b o (ne_of_none (X12 b o e) hx) (X' b o e)) hK⟩, fun hr' d H' e hd' => ke hr' d H' (X'.trans e) hd'⟩
theorem ok_kind_right (T : Txt P K mg) : FnOk P w K mg base CX0 3 T.f_kind_right T.d_kind_right P_kind_right (spKR K T.C_Field) := by
  have G_l_is_kind_name := ok_l_is_kind_name (P := P) (w := w) (base := base) T
  have G_l_is_field_name := ok_l_is_field_name (P := P) (w := w) (base := base) T
  refine T.F_kind_right.ok sc_kind_right (fun vs H Q E h => ?_) (fun cdv A outer s H vs Q E hr h => ?_)
  · obtain ⟨l, v0, v1, v2, v3, v4, v5, v6, dn, fv, db, dz, dh, dk, dr, rfl, _⟩ := h
    rfl
  · obtain ⟨l, v0, v1, v2, v3, v4, v5, v6, dn, fv, db, dz, dh, dk, dr, rfl, g, kont⟩ := h
    refine ⟨_, (pss_cons (ps_asg (pv 0) (pg_lst rfl (pgs_cons (pg_name (i := 1) sc_kind_right.nd rfl (Or.inl rfl)) (pgs_cons (pg_name (i := 2) sc_kind_right.nd rfl (Or.inl rfl)) (pgs_cons (pg_name (i := 3) sc_kind_right.nd rfl (Or.inl rfl)) (pgs_cons (pg_name (i := 4) sc_kind_right.nd rfl (Or.inl rfl)) (pgs_cons (pg_name (i := 5) sc_kind_right.nd rfl (Or.inl rfl)) (pgs_cons (pg_name (i := 6) sc_kind_right.nd rfl (Or.inl rfl)) (pgs_cons (pg_name (i := 7) sc_kind_right.nd rfl (Or.inl rfl)) pgs_nil)))))))))
      (pss_cons (ps_if (PW.pt (pw_or (pt_not (pt_val (pe_call G_l_is_kind_name hr (by rfl) T.g_l_is_kind_name T.F_l_is_kind_name.kp T.B_l_is_kind_name .nil pass0 (pa_cons (pv 1) pa_nil)))) (pw_or (pt_not (pt_val (pe_callB call_isiT (by rfl) T.b_isinstance (by decide +kernel) (pa_cons (pv 2) (pa_cons (pe_tup (pa_cons (pe_bltn (v := .ty "list") (by rfl) T.b_list (by decide +kernel) rfl) (pa_cons (pe_bltn (v := .ty "tuple") (by rfl) T.b_tuple (by decide +kernel) rfl) pa_nil))) pa_nil))))) (pw_or1 (pt_cmpR op_gt (pe_callB call_len_seq (by rfl) T.b_len (by decide +kernel) (pa_cons (pv 2) pa_nil)) pe_int (nomark _)))))) (pss_one (ps_ret pe_bl)) pss_nil)
      (pss_cons (ps_if (pt_cmpR op_gt (pe_callB call_len_seq (by rfl) T.b_len (by decide +kernel) (pa_cons (pe_lc (own := [("_law_field", 9)]) (g := gName 9) (by rfl) sc_kind_right.nd (Way.pi_sq (pv 2)) (blkOk_by (own := [("_law_field", 9)]) (N := N_kind_right) (sc := defScope s_kind_right) (by decide +kernel)) (fun _ _ _ _ _ => (pg_name (i := 9) sc_kind_right.nd rfl (Or.inl rfl))) (fun _ _ _ _ _ => (pts_one (pt_not (pt_val (pe_callB (Way.kk_isi (K := K)) (by rfl) T.b_isinstance (by decide +kernel) (pa_cons (pv 9) (pa_cons (pe_glob (v := .ref T.C_Field) (by rfl) T.g_Field rfl) pa_nil))))))) (fun _ _ _ _ _ => (pv 9))) pa_nil)) pe_int (nomark _)) (pss_one (ps_ret pe_bl)) pss_nil)
      (pss_cons (ps_set (i := 8) sc_kind_right.nd rfl (Or.inr rfl) (pe_lc (own := [("_law_field", 9)]) (g := gName 9) (by rfl) sc_kind_right.nd (Way.pi_sq (pv 2)) (blkOk_by (own := [("_law_field", 9)]) (N := N_kind_right) (sc := defScope s_kind_right) (by decide +kernel)) (fun _ _ _ _ _ => (pg_name (i := 9) sc_kind_right.nd rfl (Or.inl rfl))) (fun _ _ _ _ _ => pts_nil) (fun _ _ _ _ _ => (Way.kk_fld (K := K) (pv 9) rfl))))
      (pss_cons (ps_if (pt_cmpR op_gt (pe_callB call_len_seq (by rfl) T.b_len (by decide +kernel) (pa_cons (pe_lc (own := [("_law_one", 10)]) (g := gName 10) (by rfl) sc_kind_right.nd (Way.pi_sq (pv 8)) (blkOk_by (own := [("_law_one", 10)]) (N := N_kind_right) (sc := defScope s_kind_right) (by decide +kernel)) (fun _ _ _ _ _ => (pg_name (i := 10) sc_kind_right.nd rfl (Or.inl rfl))) (fun _ _ _ _ _ => (pts_one (pt_cmpR op_gt (pe_cnt rfl (pv 8) (pv 10)) pe_int (nomark _)))) (fun _ _ _ _ _ => (pv 10))) pa_nil)) pe_int (nomark _)) (pss_one (ps_ret pe_bl)) pss_nil)
      (pss_cons (ps_if (PW.pt (pw_and (pt_cmpR op_notN (pv 3) pe_non (nomark _)) (pw_and1 (PW.pt (pw_or (pt_not (pt_val (pe_call G_l_is_kind_name hr (by rfl) T.g_l_is_kind_name T.F_l_is_kind_name.kp T.B_l_is_kind_name .nil pass0 (pa_cons (pv 3) pa_nil)))) (pw_or1 (pt_cmpR op_eq (pv 3) (pv 1) (nomark _)))))))) (pss_one (ps_ret pe_bl)) pss_nil)
      (pss_cons (ps_if (PW.pt (pw_or (pt_not (pt_val (pe_callB call_isi (by rfl) T.b_isinstance (by decide +kernel) (pa_cons (pv 4) (pa_cons (pe_bltn (v := .ty "bool") (by rfl) T.b_bool (by decide +kernel) rfl) pa_nil))))) (pw_or (pt_not (pt_val (pe_callB call_isi (by rfl) T.b_isinstance (by decide +kernel) (pa_cons (pv 5) (pa_cons (pe_bltn (v := .ty "bool") (by rfl) T.b_bool (by decide +kernel) rfl) pa_nil))))) (pw_or1 (pt_not (pt_val (pe_callB call_isi (by rfl) T.b_isinstance (by decide +kernel) (pa_cons (pv 7) (pa_cons (pe_bltn (v := .ty "bool") (by rfl) T.b_bool (by decide +kernel) rfl) pa_nil))))))))) (pss_one (ps_ret pe_bl)) pss_nil)
      (pss_cons (ps_if (PW.pt (pw_and (pt_cmpR op_notN (pv 6) pe_non (nomark _)) (pw_and1 (pt_not (pt_val (pe_call G_l_is_field_name hr (by rfl) T.g_l_is_field_name T.F_l_is_field_name.kp T.B_l_is_field_name .nil pass0 (pa_cons (pv 6) pa_nil))))))) (pss_one (ps_ret pe_bl)) pss_nil)
      (pss_cons (ps_if (PW.pt (pw_and (pt_cmpR op_notN (pv 3) pe_non (nomark _)) (pw_and1 (PW.pt (pw_or (pt_val (pv 4)) (pw_or1 (pt_val (pv 5)))))))) (pss_one (ps_ret pe_bl)) pss_nil)
      (pss_cons (ps_if (PW.pt (pw_and (pt_val (pv 5)) (pw_and1 (PW.pt (pw_or (pt_val (pv 4)) (pw_or1 (pt_cmpR op_notN (pv 6) pe_non (nomark _)))))))) (pss_one (ps_ret pe_bl)) pss_nil)
      (pss_one (ps_ret (pe_or (pe_not (pv 7)) (pe_one (pe_cmpR op_notN (pv 6) pe_non (nomark _)))))))))))))))), ?_⟩
    refine ⟨_, rfl, ⟨l, _, rfl, SqL.of g.hl, rfl, ⟨_, _, rfl, _, _, rfl, _, _, rfl, _, _, rfl, _, _, rfl, _, _, rfl, _, _, rfl, rfl, ?_⟩⟩⟩
    have ret0 : fKR dn fv db dz dh dk dr = false → ∀ (σ : L2.St) (Hx : Hp) (N : L2.St → Hp → Prop), Ex H Hx → tRet (tC (.bl false)) { nx := N, rt := Q } σ Hx := fun h σ Hx N X => s_ret (v := .bl (fKR dn fv db dz dh dk dr)) (ev_is ev_c (by rw [h])) fun H2 X2 => kont H2 (X.trans X2)
    cases fv with
    | dat d =>
      obtain ⟨pq, hs⟩ := g.f
      refine q_when (b := true) (et_is (et_or (et_not (et_B (ev_b1 (ev_var rfl) g.n))) fun _ => et_or (a := true) (b := true) (et_not (a := false) (et_B (ev_is (ev_isSq (ev_var rfl) pq) (by rw [hs])))) fun q => nomatch q) (by simp)) (fun _ H1 X1 => ?_) fun q => nomatch q
      exact ret0 (by simp [fKR, kc1, fAF]) _ _ _ X1
    | seq b es =>
      obtain ⟨a, xs, rfl, hs, hp⟩ := g.f
      have hlen : xs.length = es.length := Paired.length hp
      have ety : ∃ t, (∀ H1, Ex H H1 → TyX K H1 (.ref a) t) ∧ PySem.W.kitAny K t [.type "list", .type "tuple"] = some true := by
        cases b with
        | true => exact ⟨_, fun H1 e => .base (.lst (e _ _ hs)), kd_sq (d := .list [])⟩
        | false => exact ⟨_, fun H1 e => ty_sqT (ex_t e hs), kd_sq (d := .tuple [])⟩
      obtain ⟨ty, t1, t2⟩ := ety
      refine q_when (b := !fKN dn || decide ((10 : Int) < (es.length : Int))) (et_is (et_or (et_not (et_B (ev_b1 (ev_var rfl) g.n))) fun _ => et_or (et_not (et_B (ev_isLT (ev_var rfl) t1 t2))) fun _ => et_test (ev_op (ev_is (ev_cb (ea_cons (ev_var rfl) ea_nil) fun H2 X2 _ q => ⟨a, xs, rfl, (hs.mono X2).sq, q H2 (Ex.refl H2)⟩) (by rw [hlen])) ev_c rv_I0)) (by simp)) (fun q H1 X1 => ?_) (fun q1 H1 X1 => ?_)
      · refine ret0 ?_ _ _ _ X1
        rcases Bool.or_eq_true_iff.mp q with z | z
        · simp [fKR, kc1, z]
        · have : ¬ es.length ≤ 10 := by have := of_decide_eq_true z; omega
          simp [fKR, kc1, fAF, this]
      have q1' : fKN dn = true ∧ es.length ≤ 10 := by
        simp only [Bool.or_eq_false_iff, Bool.not_eq_false', decide_eq_false_iff_not] at q1
        exact ⟨q1.1, by omega⟩
      obtain ⟨nm, rfl⟩ := fKN_str q1'.1
      obtain ⟨rfl, _⟩ := pv_str g.n
      refine q_when (b := !es.all isFld) (et_is (et_test (ev_op (ev_lenFltQ (K := K) (P := ElAt K T.C_Field) (S := es) (g := fun e => !isFld e) (ev_var rfl) (hs.mono X1).sq (Paired.mapP hp fun _ _ h => elAt_mono _ _ _ _ X1 h) (by omega) (by show 9 < 11; decide) (fun _ => rfl) fun x e H2 X2 he hx => et_not (et_B (ev_isF T (ev_var rfl) (elAt_mono _ _ _ _ X2 hx)))) ev_c rv_I0)) (fld_flt es)) (fun q H2 X2 => ?_) (fun q2 H2 X2 => ?_)
      · have q' : es.all isFld = false := by simpa using q
        exact ret0 (by simp [fKR, kc1, fAF, q']) _ _ _ (X1.trans X2)
      have q2' : es.all isFld = true := by simpa using q2
      have X12 := X1.trans X2
      have enm : (es.map fun e => V.str (nmE e)) = (es.map nmE).map V.str := by rw [List.map_map]; rfl
      refine q_any ((el_mapQ (K := K) (P := ElAt K T.C_Field) (S := es) (w := fun e => .str (nmE e)) (ev_var rfl) (hs.mono X12).sq (Paired.mapP hp fun _ _ h => elAt_mono _ _ _ _ X12 h) (by omega) (fun _ => rfl) (fun x e H4 X4 he hx => ?_) : EvL _ _ H2 _) H2 (Ex.refl H2) _ fun nl H3 hnl X3 h3 => ?_)
      · obtain ⟨f, rfl⟩ := el_nm q2' he
        obtain ⟨x', dx, fs, wt, rfl, h2, h3, _⟩ := (hx : FAt K T.C_Field f x H2)
        exact ev_fld (ev_var rfl) (X4 _ _ h2) T.cl_Field T.na_Field_name h3
      rw [enm] at h3
      have X13 := X12.trans X3
      have ls : (es.map nmE).length ≤ 10 := by rw [List.length_map]; exact q1'.2
      have hnod : kc1 (.str nm) (.seq b es) = !nodS (es.map nmE) := by simp [kc1, fAF, q1'.1, q1'.2, q2']
      revert h3 ls hnod
      generalize es.map nmE = ns
      intro h3 ls hnod
      refine q_when (b := !nodS ns) (et_is (et_test (ev_op (ev_lenFltQ (K := K) (P := fun y x _ => x = V.str y) (S := ns) (g := fun x => decide ((1 : Int) < ((ns.count x : Nat) : Int))) (ev_var rfl) (.inl (sq_of h3)) ?_ (by omega) (by show 10 < 11; decide) (fun _ => rfl) fun x y H4 X4 hy hx => et_test (ev_op ?_ ev_c rv_I0)) ev_c rv_I0)) (by rw [nod_cnt, Bool.not_not])) (fun q H4 X4 => ?_) (fun q3 H4 X4 => ?_)
      · clear h3 ls hnod
        induction ns with
        | nil => exact .nil
        | cons a r ih => exact .cons rfl ih
      · subst hx
        exact fun H5 e5 Q' q' => ⟨_, rfl, Or.inl ⟨rfl, _, sq_of (e5 _ _ (X4 _ _ h3))⟩, ⟨_, rfl, nl, ns, y, rfl, rfl, sq_of (e5 _ _ (X4 _ _ h3)), q' H5 (Ex.refl H5)⟩⟩
      · exact ret0 (by simp only [fKR, hnod, q]; rfl) _ _ _ (X13.trans X4)
      have e1 : kc1 (.str nm) (.seq b es) = false := by rw [hnod, q3]
      have X14 := X13.trans X4
      refine q_when (b := kc2 (.str nm) db) (et_and (et_test (ev_is (ev_op (ev_var rfl) ev_c rv_notN) (by rw [pv_isNon g.b]))) fun _ => et_or (et_not (et_B (ev_b1 (ev_var rfl) (g.b.mono X14)))) fun qk => ?_) (fun q H5 X5 => ?_) (fun e2 H5 X5 => ?_)
      · have qk' : fKN db = true := by simpa using qk
        obtain ⟨y, rfl⟩ := fKN_str qk'
        obtain ⟨rfl, _⟩ := pv_str g.b
        exact et_is (et_test (ev_op (ev_var rfl) (ev_var rfl) (rv_eq rfl))) (decide_eq_decide.mpr ⟨fun h => V.str.inj h, fun h => congrArg V.str h⟩)
      · exact ret0 (by simp [fKR, q]) _ _ _ (X14.trans X5)
      have X15 := X14.trans X5
      refine q_when (b := !isBool dz || (!isBool dh || !isBool dr)) (et_or (et_not (et_B (ev_isd (ev_var rfl) (g.z.mono X15) kd_bool))) fun _ => et_or (et_not (et_B (ev_isd (ev_var rfl) (g.h.mono X15) kd_bool))) fun _ => et_not (et_B (ev_isd (ev_var rfl) (g.r.mono X15) kd_bool))) (fun q H6 X6 => ?_) (fun q4 H6 X6 => ?_)
      · exact ret0 (by
          have : (isBool dz && (isBool dh && isBool dr)) = false := by
            cases h1 : isBool dz <;> cases h2 : isBool dh <;> cases h3 : isBool dr <;> simp_all
          simp [fKR, kc3, this]) _ _ _ (X15.trans X6)
      have X16 := X15.trans X6
      simp only [Bool.or_eq_false_iff, Bool.not_eq_false'] at q4
      obtain ⟨z1, z2, z3⟩ := q4
      obtain ⟨bz, rfl⟩ := isBool_of z1
      obtain ⟨bh, rfl⟩ := isBool_of z2
      obtain ⟨br, rfl⟩ := isBool_of z3
      obtain rfl := pv_bool g.z
      obtain rfl := pv_bool g.h
      obtain rfl := pv_bool g.r
      refine q_when (b := !Way.isNon dk && !fFN dk) (et_and (et_test (ev_is (ev_op (ev_var rfl) ev_c rv_notN) (by rw [pv_isNon g.k]))) fun _ => et_not (et_B (ev_b1 (ev_var rfl) (g.k.mono X16)))) (fun q H7 X7 => ?_) (fun q5 H7 X7 => ?_)
      · exact ret0 (by simp [fKR, kc3, q]) _ _ _ (X16.trans X7)
      have X17 := X16.trans X7
      have e3 : kc3 (.bool bz) (.bool bh) dk (.bool br) = false := by simp only [kc3, q5]; rfl
      refine q_when (b := !Way.isNon db && (bz || bh)) (et_and (et_test (ev_is (ev_op (ev_var rfl) ev_c rv_notN) (by rw [pv_isNon g.b]))) fun _ => et_or (et_B (ev_var rfl)) fun _ => et_B (ev_var rfl)) (fun q H8 X8 => ?_) (fun q6 H8 X8 => ?_)
      · exact ret0 (by
          have : kc4 db (.bool bz) (.bool bh) dk = true := by simp only [kc4, bv, q, Bool.true_or]
          simp [fKR, this]) _ _ _ (X17.trans X8)
      have X18 := X17.trans X8
      refine q_when (b := bh && (bz || !Way.isNon dk)) (et_and (et_B (ev_var rfl)) fun _ => et_or (et_B (ev_var rfl)) fun _ => et_test (ev_is (ev_op (ev_var rfl) ev_c rv_notN) (by rw [pv_isNon g.k]))) (fun q H9 X9 => ?_) (fun q7 H9 X9 => ?_)
      · exact ret0 (by
          have : kc4 db (.bool bz) (.bool bh) dk = true := by simp only [kc4, bv, q, Bool.or_true]
          simp [fKR, this]) _ _ _ (X18.trans X9)
      have e4 : kc4 db (.bool bz) (.bool bh) dk = false := by simp only [kc4, bv, q6, q7]; rfl
      have ef : fKR (.str nm) (.seq b es) db (.bool bz) (.bool bh) dk (.bool br) = !kc5 dk (.bool br) := by simp [fKR, e1, e2, e3, e4]
      rw [ef] at kont
      refine s_ret (ev_is (ev_orV (ev_notV (ev_var rfl)) fun _ => ev_is (ev_op (ev_var rfl) ev_c rv_notN) (by rw [pv_isNon g.k])) ?_) fun H10 X10 => kont H10 ((X18.trans X9).trans X10)
      simp [kc5, bv]
end
end K01

namespace K01
open PySem L2 Way Evl
section
variable {P : Program} {w : World} {K : PySem.W.Frag} {mg : Str → Option Value} {base : Heap}
theorem okh_letters (T : Txt P K mg) : L2H.FnH P w K mg base CX0 1 T.f_letters T.d_letters P_letters (spX lets) := by
  refine Way.okH T.F_letters sc_letters (fun vs H Q E h => ?_) (fun cdv A outer s H vs Q E pin hc hr h => ?_)
  · obtain ⟨x, rfl, _⟩ := h
    rfl
  · obtain ⟨x, rfl, hl, kont⟩ := h
    refine ⟨_, (pss_one (ps_ret (pe_cmpR op_eq (pe_callB call_len_seq (by rfl) T.b_len (by decide +kernel) (pa_cons (Way.peq_lc (own := [("_law_sign", 1)]) (g := gName 1) hc sc_letters.nd (Way.piq_str (pv 0)) (blkOk_by (own := [("_law_sign", 1)]) (N := N_letters) (sc := defScope s_letters) (by decide +kernel)) (fun _ _ _ _ _ => (pg_name (i := 1) sc_letters.nd rfl (Or.inl rfl))) (fun _ _ _ _ _ => (pts_one (pt_cmpR op_notIn_sign (pv 1) pe_str (by rfl)))) (fun _ _ _ _ _ => (pv 1))) pa_nil)) pe_int (nomark _)))), ?_⟩
    refine s_ret (ev_is (ev_op (ev_lenFltX (g := fun c => !decide (c ∈ LET)) (ev_var rfl) (by have : x.cps.size ≤ 100 := hl; omega) (by show 1 < 2; decide) (fun _ => rfl) fun c H1 X1 => et_test (ev_op (ev_var rfl) ev_c rv_signN)) ev_c (rv_eq rfl)) ?_) fun H1 X1 => kont H1 X1
    unfold lets
    generalize x.cps.toList = l
    congr 1
    induction l with
    | nil => rfl
    | cons a r ih =>
      rw [List.all_cons, List.filter_cons]
      cases h : decide (a ∈ LET) with
      | true => simpa using ih
      | false => simp; omega
theorem okh_l_is_field_name (T : Txt P K mg) : L2H.FnH P w K mg base CX0 2 T.f_l_is_field_name T.d_l_is_field_name P_l_is_field_name (spB1 K fFN) := by
  have GH_letters := okh_letters (P := P) (w := w) (base := base) T
  refine Way.okH T.F_l_is_field_name sc_l_is_field_name (fun vs H Q E h => ?_) (fun cdv A outer s H vs Q E pin hc hr h => ?_)
  · obtain ⟨v, d, rfl, _⟩ := h
    rfl
  · obtain ⟨v, d, rfl, pq, kont⟩ := h
    refine ⟨_, (pss_one (ps_ret (pe_and (pe_callB call_isi (by rfl) T.b_isinstance (by decide +kernel) (pa_cons (pv 0) (pa_cons (pe_bltn (v := .ty "str") (by rfl) T.b_str (by decide +kernel) rfl) pa_nil))) (pe_and (pe_chain op_le op_le pe_int (pe_callB call_len_str (by rfl) T.b_len (by decide +kernel) (pa_cons (pv 0) pa_nil)) pe_int) (pe_one (Way.pe_callH0 GH_letters hc hr (by rfl) T.g_letters T.F_letters.kp T.B_letters (pa_cons (pv 0) pa_nil))))))), ?_⟩
    cases hs : isStr d with
    | false =>
      refine s_ret (ev_is (ev_andV (a := false) (b := true) (ev_isd (ev_var rfl) pq (by rw [kd_str, hs])) fun q => nomatch q) ?_) fun H1 X1 => kont H1 X1
      cases d <;> simp_all [isStr, fFN]
    | true =>
      obtain ⟨x, rfl, rfl, hl⟩ := pv_isStr pq hs
      refine s_ret (ev_is (ev_andV (ev_isd (ev_var rfl) pq kd_str) fun _ => ev_andV (ev_chain ev_c (ev_lenX (ev_var rfl) (by omega)) ev_c rv_I0 rv_I0) fun _ => ev_x (ev_var rfl) (by omega)) ?_) fun H1 X1 => kont H1 X1
      rfl
theorem okh_l_is_kind_name (T : Txt P K mg) : L2H.FnH P w K mg base CX0 2 T.f_l_is_kind_name T.d_l_is_kind_name P_l_is_kind_name (spB1 K fKN) := by
  have GH_letters := okh_letters (P := P) (w := w) (base := base) T
  refine Way.okH T.F_l_is_kind_name sc_l_is_kind_name (fun vs H Q E h => ?_) (fun cdv A outer s H vs Q E pin hc hr h => ?_)
  · obtain ⟨v, d, rfl, _⟩ := h
    rfl
  · obtain ⟨v, d, rfl, pq, kont⟩ := h
    refine ⟨_, (pss_cons (ps_if (PW.pt (pw_or (pt_not (pt_val (pe_callB call_isi (by rfl) T.b_isinstance (by decide +kernel) (pa_cons (pv 0) (pa_cons (pe_bltn (v := .ty "str") (by rfl) T.b_str (by decide +kernel) rfl) pa_nil))))) (pw_or1 (pt_not (pt_chain op_le op_le pe_int (pe_callB call_len_str (by rfl) T.b_len (by decide +kernel) (pa_cons (pv 0) pa_nil)) pe_int))))) (pss_one (ps_ret pe_bl)) pss_nil)
      (pss_one (ps_ret (pe_and (pe_cmpR op_in_sign (pe_ix ix_str (pv 0) pe_int (fun _ _ => rfl)) pe_str (by rfl)) (pe_one (Way.pe_callH0 GH_letters hc hr (by rfl) T.g_letters T.F_letters.kp T.B_letters (pa_cons (pe_slice C8.sl_txt (pv 0) (po_some pe_int) po_none) pa_nil))))))), ?_⟩
    cases hs : isStr d with
    | false =>
      refine q_when (b := true) (et_is (et_or (a := true) (b := true) (et_not (a := false) (et_B (ev_isd (ev_var rfl) pq (by rw [kd_str, hs])))) fun q => nomatch q) rfl) (fun _ H1 X1 => ?_) fun q => nomatch q
      refine s_ret (v := .bl (fKN d)) (ev_is ev_c ?_) fun H2 X2 => kont H2 (X1.trans X2)
      cases d <;> simp_all [isStr, fKN]
    | true =>
      obtain ⟨x, rfl, rfl, hl⟩ := pv_isStr pq hs
      refine q_when (b := !sz8 x) (et_is (et_or (et_not (et_B (ev_isd (ev_var rfl) pq (by rw [kd_str, hs])))) fun _ => et_not (et_test (ev_chain ev_c (ev_lenX (ev_var rfl) (by omega)) ev_c rv_I0 rv_I0))) rfl) (fun q H1 X1 => ?_) (fun q H1 X1 => ?_)
      · refine s_ret (v := .bl (fKN (.str x))) (ev_is ev_c ?_) fun H2 X2 => kont H2 (X1.trans X2)
        have q' : sz8 x = false := by simpa using q
        simp [fKN, knS, q']
      · have q' : sz8 x = true := by simpa using q
        obtain ⟨c, r, e, h8⟩ := sz8_cons q'
        refine s_ret (v := .bl (fKN (.str x))) (ev_is (ev_andV (ev_op (ev_op (ev_var rfl) ev_c (rv_ixS (by omega) (at0 e))) ev_c rv_sign) fun _ => ev_x (ev_is (ev_slX (ev_var rfl) (eo_some ev_c) eo_none (by omega)) (congrArg V.str (slice1 e))) ?_) ?_) fun H2 X2 => kont H2 (X1.trans X2)
        · have h1 : x.cps.toList.length = x.length := by simp [Str.length]
          rw [e, List.length_cons] at h1
          have h2 : (Str.mk r.toArray).length = r.length := by simp [Str.length]
          rw [h2]
          omega
        · simp only [fKN, knS, q', e, capL, Bool.true_and]
          rfl
theorem okh_same (T : Txt P K mg) : Way.FnHG P w K mg base CX0 1 T.f_same T.d_same P_same (spSame K) := by
  refine Way.okHG T.F_same sc_same (fun vs H Q E h => ?_) (fun cdv A outer s H vs Q E pin hgd hc hr h => ?_)
  · obtain ⟨u, v, d, e, rfl, _⟩ := h
    rfl
  · obtain ⟨u, v, d, e, rfl, hu, hv, fd, fe, kont⟩ := h
    refine ⟨_, (pss_one (ps_ret (pe_cmpR op_eq (pe_callB (Way.call_reprU hgd (Way.RoomH.units hr)) (by rfl) T.b_repr (by decide +kernel) (pa_cons (pv 0) pa_nil)) (pe_callB (Way.call_reprU hgd (Way.RoomH.units hr)) (by rfl) T.b_repr (by decide +kernel) (pa_cons (pv 1) pa_nil)) (nomark _)))), ?_⟩
    refine s_ret (ev_is (ev_op (ev_cb (ea_cons (ev_var rfl) ea_nil) fun H1 X1 Q' q => ⟨u, d, rfl, hu H1 X1, fd.1, fd.2.1, fd.2.2, q H1 (Ex.refl H1)⟩) (ev_cb (ea_cons (ev_var rfl) ea_nil) fun H1 X1 Q' q => ⟨v, e, rfl, hv H1 X1, fe.1, fe.2.1, fe.2.2, q H1 (Ex.refl H1)⟩) (rv_eq rfl)) ?_) fun H1 X1 => kont H1 X1
    exact congrArg V.bl (decide_eq_decide.mpr ⟨fun h => V.str.inj h, fun h => congrArg V.str h⟩)
theorem okh_kind_right (T : Txt P K mg) : L2H.FnH P w K mg base CX0 3 T.f_kind_right T.d_kind_right P_kind_right (spKR K T.C_Field) := by
  have GH_l_is_kind_name := okh_l_is_kind_name (P := P) (w := w) (base := base) T
  have GH_l_is_field_name := okh_l_is_field_name (P := P) (w := w) (base := base) T
  refine Way.okH T.F_kind_right sc_kind_right (fun vs H Q E h => ?_) (fun cdv A outer s H vs Q E pin hc hr h => ?_)
  · obtain ⟨l, v0, v1, v2, v3, v4, v5, v6, dn, fv, db, dz, dh, dk, dr, rfl, _⟩ := h
    rfl
  · obtain ⟨l, v0, v1, v2, v3, v4, v5, v6, dn, fv, db, dz, dh, dk, dr, rfl, g, kont⟩ := h
    refine ⟨_, (pss_cons (ps_asg (pv 0) (Way.pgq_lst hc (pgs_cons (pg_name (i := 1) sc_kind_right.nd rfl (Or.inl rfl)) (pgs_cons (pg_name (i := 2) sc_kind_right.nd rfl (Or.inl rfl)) (pgs_cons (pg_name (i := 3) sc_kind_right.nd rfl (Or.inl rfl)) (pgs_cons (pg_name (i := 4) sc_kind_right.nd rfl (Or.inl rfl)) (pgs_cons (pg_name (i := 5) sc_kind_right.nd rfl (Or.inl rfl)) (pgs_cons (pg_name (i := 6) sc_kind_right.nd rfl (Or.inl rfl)) (pgs_cons (pg_name (i := 7) sc_kind_right.nd rfl (Or.inl rfl)) pgs_nil)))))))))
      (pss_cons (ps_if (PW.pt (pw_or (pt_not (pt_val (Way.pe_callH0 GH_l_is_kind_name hc hr (by rfl) T.g_l_is_kind_name T.F_l_is_kind_name.kp T.B_l_is_kind_name (pa_cons (pv 1) pa_nil)))) (pw_or (pt_not (pt_val (pe_callB call_isiT (by rfl) T.b_isinstance (by decide +kernel) (pa_cons (pv 2) (pa_cons (pe_tup (pa_cons (pe_bltn (v := .ty "list") (by rfl) T.b_list (by decide +kernel) rfl) (pa_cons (pe_bltn (v := .ty "tuple") (by rfl) T.b_tuple (by decide +kernel) rfl) pa_nil))) pa_nil))))) (pw_or1 (pt_cmpR op_gt (pe_callB call_len_seq (by rfl) T.b_len (by decide +kernel) (pa_cons (pv 2) pa_nil)) pe_int (nomark _)))))) (pss_one (ps_ret pe_bl)) pss_nil)
      (pss_cons (ps_if (pt_cmpR op_gt (pe_callB call_len_seq (by rfl) T.b_len (by decide +kernel) (pa_cons (Way.peq_lc (own := [("_law_field", 9)]) (g := gName 9) hc sc_kind_right.nd (Way.piq_sq (pv 2)) (blkOk_by (own := [("_law_field", 9)]) (N := N_kind_right) (sc := defScope s_kind_right) (by decide +kernel)) (fun _ _ _ _ _ => (pg_name (i := 9) sc_kind_right.nd rfl (Or.inl rfl))) (fun _ _ _ _ _ => (pts_one (pt_not (pt_val (pe_callB (Way.kk_isi (K := K)) (by rfl) T.b_isinstance (by decide +kernel) (pa_cons (pv 9) (pa_cons (pe_glob (v := .ref T.C_Field) (by rfl) T.g_Field rfl) pa_nil))))))) (fun _ _ _ _ _ => (pv 9))) pa_nil)) pe_int (nomark _)) (pss_one (ps_ret pe_bl)) pss_nil)
      (pss_cons (ps_set (i := 8) sc_kind_right.nd rfl (Or.inr rfl) (Way.peq_lc (own := [("_law_field", 9)]) (g := gName 9) hc sc_kind_right.nd (Way.piq_sq (pv 2)) (blkOk_by (own := [("_law_field", 9)]) (N := N_kind_right) (sc := defScope s_kind_right) (by decide +kernel)) (fun _ _ _ _ _ => (pg_name (i := 9) sc_kind_right.nd rfl (Or.inl rfl))) (fun _ _ _ _ _ => pts_nil) (fun _ _ _ _ _ => (Way.kk_fld (K := K) (pv 9) rfl))))
      (pss_cons (ps_if (pt_cmpR op_gt (pe_callB call_len_seq (by rfl) T.b_len (by decide +kernel) (pa_cons (Way.peq_lc (own := [("_law_one", 10)]) (g := gName 10) hc sc_kind_right.nd (Way.piq_sq (pv 8)) (blkOk_by (own := [("_law_one", 10)]) (N := N_kind_right) (sc := defScope s_kind_right) (by decide +kernel)) (fun _ _ _ _ _ => (pg_name (i := 10) sc_kind_right.nd rfl (Or.inl rfl))) (fun _ _ _ _ _ => (pts_one (pt_cmpR op_gt (pe_cnt rfl (pv 8) (pv 10)) pe_int (nomark _)))) (fun _ _ _ _ _ => (pv 10))) pa_nil)) pe_int (nomark _)) (pss_one (ps_ret pe_bl)) pss_nil)
      (pss_cons (ps_if (PW.pt (pw_and (pt_cmpR op_notN (pv 3) pe_non (nomark _)) (pw_and1 (PW.pt (pw_or (pt_not (pt_val (Way.pe_callH0 GH_l_is_kind_name hc hr (by rfl) T.g_l_is_kind_name T.F_l_is_kind_name.kp T.B_l_is_kind_name (pa_cons (pv 3) pa_nil)))) (pw_or1 (pt_cmpR op_eq (pv 3) (pv 1) (nomark _)))))))) (pss_one (ps_ret pe_bl)) pss_nil)
      (pss_cons (ps_if (PW.pt (pw_or (pt_not (pt_val (pe_callB call_isi (by rfl) T.b_isinstance (by decide +kernel) (pa_cons (pv 4) (pa_cons (pe_bltn (v := .ty "bool") (by rfl) T.b_bool (by decide +kernel) rfl) pa_nil))))) (pw_or (pt_not (pt_val (pe_callB call_isi (by rfl) T.b_isinstance (by decide +kernel) (pa_cons (pv 5) (pa_cons (pe_bltn (v := .ty "bool") (by rfl) T.b_bool (by decide +kernel) rfl) pa_nil))))) (pw_or1 (pt_not (pt_val (pe_callB call_isi (by rfl) T.b_isinstance (by decide +kernel) (pa_cons (pv 7) (pa_cons (pe_bltn (v := .ty "bool") (by rfl) T.b_bool (by decide +kernel) rfl) pa_nil))))))))) (pss_one (ps_ret pe_bl)) pss_nil)
      (pss_cons (ps_if (PW.pt (pw_and (pt_cmpR op_notN (pv 6) pe_non (nomark _)) (pw_and1 (pt_not (pt_val (Way.pe_callH0 GH_l_is_field_name hc hr (by rfl) T.g_l_is_field_name T.F_l_is_field_name.kp T.B_l_is_field_name (pa_cons (pv 6) pa_nil))))))) (pss_one (ps_ret pe_bl)) pss_nil)
      (pss_cons (ps_if (PW.pt (pw_and (pt_cmpR op_notN (pv 3) pe_non (nomark _)) (pw_and1 (PW.pt (pw_or (pt_val (pv 4)) (pw_or1 (pt_val (pv 5)))))))) (pss_one (ps_ret pe_bl)) pss_nil)
      (pss_cons (ps_if (PW.pt (pw_and (pt_val (pv 5)) (pw_and1 (PW.pt (pw_or (pt_val (pv 4)) (pw_or1 (pt_cmpR op_notN (pv 6) pe_non (nomark _)))))))) (pss_one (ps_ret pe_bl)) pss_nil)
      (pss_one (ps_ret (pe_or (pe_not (pv 7)) (pe_one (pe_cmpR op_notN (pv 6) pe_non (nomark _)))))))))))))))), ?_⟩
    refine ⟨_, rfl, ⟨l, _, rfl, SqL.of g.hl, rfl, ⟨_, _, rfl, _, _, rfl, _, _, rfl, _, _, rfl, _, _, rfl, _, _, rfl, _, _, rfl, rfl, ?_⟩⟩⟩
    have ret0 : fKR dn fv db dz dh dk dr = false → ∀ (σ : L2.St) (Hx : Hp) (N : L2.St → Hp → Prop), Ex H Hx → tRet (tC (.bl false)) { nx := N, rt := Q } σ Hx := fun h σ Hx N X => s_ret (v := .bl (fKR dn fv db dz dh dk dr)) (ev_is ev_c (by rw [h])) fun H2 X2 => kont H2 (X.trans X2)
    cases fv with
    | dat d =>
      obtain ⟨pq, hs⟩ := g.f
      refine q_when (b := true) (et_is (et_or (et_not (et_B (ev_b1 (ev_var rfl) g.n))) fun _ => et_or (a := true) (b := true) (et_not (a := false) (et_B (ev_is (ev_isSq (ev_var rfl) pq) (by rw [hs])))) fun q => nomatch q) (by simp)) (fun _ H1 X1 => ?_) fun q => nomatch q
      exact ret0 (by simp [fKR, kc1, fAF]) _ _ _ X1
    | seq b es =>
      obtain ⟨a, xs, rfl, hs, hp⟩ := g.f
      have hlen : xs.length = es.length := Paired.length hp
      have ety : ∃ t, (∀ H1, Ex H H1 → TyX K H1 (.ref a) t) ∧ PySem.W.kitAny K t [.type "list", .type "tuple"] = some true := by
        cases b with
        | true => exact ⟨_, fun H1 e => .base (.lst (e _ _ hs)), kd_sq (d := .list [])⟩
        | false => exact ⟨_, fun H1 e => ty_sqT (ex_t e hs), kd_sq (d := .tuple [])⟩
      obtain ⟨ty, t1, t2⟩ := ety
      refine q_when (b := !fKN dn || decide ((10 : Int) < (es.length : Int))) (et_is (et_or (et_not (et_B (ev_b1 (ev_var rfl) g.n))) fun _ => et_or (et_not (et_B (ev_isLT (ev_var rfl) t1 t2))) fun _ => et_test (ev_op (ev_is (ev_cb (ea_cons (ev_var rfl) ea_nil) fun H2 X2 _ q => ⟨a, xs, rfl, (hs.mono X2).sq, q H2 (Ex.refl H2)⟩) (by rw [hlen])) ev_c rv_I0)) (by simp)) (fun q H1 X1 => ?_) (fun q1 H1 X1 => ?_)
      · refine ret0 ?_ _ _ _ X1
        rcases Bool.or_eq_true_iff.mp q with z | z
        · simp [fKR, kc1, z]
        · have : ¬ es.length ≤ 10 := by have := of_decide_eq_true z; omega
          simp [fKR, kc1, fAF, this]
      have q1' : fKN dn = true ∧ es.length ≤ 10 := by
        simp only [Bool.or_eq_false_iff, Bool.not_eq_false', decide_eq_false_iff_not] at q1
        exact ⟨q1.1, by omega⟩
      obtain ⟨nm, rfl⟩ := fKN_str q1'.1
      obtain ⟨rfl, _⟩ := pv_str g.n
      refine q_when (b := !es.all isFld) (et_is (et_test (ev_op (ev_lenFltQ (K := K) (P := ElAt K T.C_Field) (S := es) (g := fun e => !isFld e) (ev_var rfl) (hs.mono X1).sq (Paired.mapP hp fun _ _ h => elAt_mono _ _ _ _ X1 h) (by omega) (by show 9 < 11; decide) (fun _ => rfl) fun x e H2 X2 he hx => et_not (et_B (ev_isF T (ev_var rfl) (elAt_mono _ _ _ _ X2 hx)))) ev_c rv_I0)) (fld_flt es)) (fun q H2 X2 => ?_) (fun q2 H2 X2 => ?_)
      · have q' : es.all isFld = false := by simpa using q
        exact ret0 (by simp [fKR, kc1, fAF, q']) _ _ _ (X1.trans X2)
      have q2' : es.all isFld = true := by simpa using q2
      have X12 := X1.trans X2
      have enm : (es.map fun e => V.str (nmE e)) = (es.map nmE).map V.str := by rw [List.map_map]; rfl
      refine q_any ((el_mapQ (K := K) (P := ElAt K T.C_Field) (S := es) (w := fun e => .str (nmE e)) (ev_var rfl) (hs.mono X12).sq (Paired.mapP hp fun _ _ h => elAt_mono _ _ _ _ X12 h) (by omega) (fun _ => rfl) (fun x e H4 X4 he hx => ?_) : EvL _ _ H2 _) H2 (Ex.refl H2) _ fun nl H3 hnl X3 h3 => ?_)
      · obtain ⟨f, rfl⟩ := el_nm q2' he
        obtain ⟨x', dx, fs, wt, rfl, h2, h3, _⟩ := (hx : FAt K T.C_Field f x H2)
        exact ev_fld (ev_var rfl) (X4 _ _ h2) T.cl_Field T.na_Field_name h3
      rw [enm] at h3
      have X13 := X12.trans X3
      have ls : (es.map nmE).length ≤ 10 := by rw [List.length_map]; exact q1'.2
      have hnod : kc1 (.str nm) (.seq b es) = !nodS (es.map nmE) := by simp [kc1, fAF, q1'.1, q1'.2, q2']
      revert h3 ls hnod
      generalize es.map nmE = ns
      intro h3 ls hnod
      refine q_when (b := !nodS ns) (et_is (et_test (ev_op (ev_lenFltQ (K := K) (P := fun y x _ => x = V.str y) (S := ns) (g := fun x => decide ((1 : Int) < ((ns.count x : Nat) : Int))) (ev_var rfl) (.inl (sq_of h3)) ?_ (by omega) (by show 10 < 11; decide) (fun _ => rfl) fun x y H4 X4 hy hx => et_test (ev_op ?_ ev_c rv_I0)) ev_c rv_I0)) (by rw [nod_cnt, Bool.not_not])) (fun q H4 X4 => ?_) (fun q3 H4 X4 => ?_)
      · clear h3 ls hnod
        induction ns with
        | nil => exact .nil
        | cons a r ih => exact .cons rfl ih
      · subst hx
        exact fun H5 e5 Q' q' => ⟨_, rfl, Or.inl ⟨rfl, _, sq_of (e5 _ _ (X4 _ _ h3))⟩, ⟨_, rfl, nl, ns, y, rfl, rfl, sq_of (e5 _ _ (X4 _ _ h3)), q' H5 (Ex.refl H5)⟩⟩
      · exact ret0 (by simp only [fKR, hnod, q]; rfl) _ _ _ (X13.trans X4)
      have e1 : kc1 (.str nm) (.seq b es) = false := by rw [hnod, q3]
      have X14 := X13.trans X4
      refine q_when (b := kc2 (.str nm) db) (et_and (et_test (ev_is (ev_op (ev_var rfl) ev_c rv_notN) (by rw [pv_isNon g.b]))) fun _ => et_or (et_not (et_B (ev_b1 (ev_var rfl) (g.b.mono X14)))) fun qk => ?_) (fun q H5 X5 => ?_) (fun e2 H5 X5 => ?_)
      · have qk' : fKN db = true := by simpa using qk
        obtain ⟨y, rfl⟩ := fKN_str qk'
        obtain ⟨rfl, _⟩ := pv_str g.b
        exact et_is (et_test (ev_op (ev_var rfl) (ev_var rfl) (rv_eq rfl))) (decide_eq_decide.mpr ⟨fun h => V.str.inj h, fun h => congrArg V.str h⟩)
      · exact ret0 (by simp [fKR, q]) _ _ _ (X14.trans X5)
      have X15 := X14.trans X5
      refine q_when (b := !isBool dz || (!isBool dh || !isBool dr)) (et_or (et_not (et_B (ev_isd (ev_var rfl) (g.z.mono X15) kd_bool))) fun _ => et_or (et_not (et_B (ev_isd (ev_var rfl) (g.h.mono X15) kd_bool))) fun _ => et_not (et_B (ev_isd (ev_var rfl) (g.r.mono X15) kd_bool))) (fun q H6 X6 => ?_) (fun q4 H6 X6 => ?_)
      · exact ret0 (by
          have : (isBool dz && (isBool dh && isBool dr)) = false := by
            cases h1 : isBool dz <;> cases h2 : isBool dh <;> cases h3 : isBool dr <;> simp_all
          simp [fKR, kc3, this]) _ _ _ (X15.trans X6)
      have X16 := X15.trans X6
      simp only [Bool.or_eq_false_iff, Bool.not_eq_false'] at q4
      obtain ⟨z1, z2, z3⟩ := q4
      obtain ⟨bz, rfl⟩ := isBool_of z1
      obtain ⟨bh, rfl⟩ := isBool_of z2
      obtain ⟨br, rfl⟩ := isBool_of z3
      obtain rfl := pv_bool g.z
      obtain rfl := pv_bool g.h
      obtain rfl := pv_bool g.r
      refine q_when (b := !Way.isNon dk && !fFN dk) (et_and (et_test (ev_is (ev_op (ev_var rfl) ev_c rv_notN) (by rw [pv_isNon g.k]))) fun _ => et_not (et_B (ev_b1 (ev_var rfl) (g.k.mono X16)))) (fun q H7 X7 => ?_) (fun q5 H7 X7 => ?_)
      · exact ret0 (by simp [fKR, kc3, q]) _ _ _ (X16.trans X7)
      have X17 := X16.trans X7
      have e3 : kc3 (.bool bz) (.bool bh) dk (.bool br) = false := by simp only [kc3, q5]; rfl
      refine q_when (b := !Way.isNon db && (bz || bh)) (et_and (et_test (ev_is (ev_op (ev_var rfl) ev_c rv_notN) (by rw [pv_isNon g.b]))) fun _ => et_or (et_B (ev_var rfl)) fun _ => et_B (ev_var rfl)) (fun q H8 X8 => ?_) (fun q6 H8 X8 => ?_)
      · exact ret0 (by
          have : kc4 db (.bool bz) (.bool bh) dk = true := by simp only [kc4, bv, q, Bool.true_or]
          simp [fKR, this]) _ _ _ (X17.trans X8)
      have X18 := X17.trans X8
      refine q_when (b := bh && (bz || !Way.isNon dk)) (et_and (et_B (ev_var rfl)) fun _ => et_or (et_B (ev_var rfl)) fun _ => et_test (ev_is (ev_op (ev_var rfl) ev_c rv_notN) (by rw [pv_isNon g.k]))) (fun q H9 X9 => ?_) (fun q7 H9 X9 => ?_)
      · exact ret0 (by
          have : kc4 db (.bool bz) (.bool bh) dk = true := by simp only [kc4, bv, q, Bool.or_true]
          simp [fKR, this]) _ _ _ (X18.trans X9)
      have e4 : kc4 db (.bool bz) (.bool bh) dk = false := by simp only [kc4, bv, q6, q7]; rfl
      have ef : fKR (.str nm) (.seq b es) db (.bool bz) (.bool bh) dk (.bool br) = !kc5 dk (.bool br) := by simp [fKR, e1, e2, e3, e4]
      rw [ef] at kont
      refine s_ret (ev_is (ev_orV (ev_notV (ev_var rfl)) fun _ => ev_is (ev_op (ev_var rfl) ev_c rv_notN) (by rw [pv_isNon g.k])) ?_) fun H10 X10 => kont H10 ((X18.trans X9).trans X10)
      simp [kc5, bv]
end
end K01

namespace K01
open PySem L2 Way Evl
/-- a list at v is not at s -/
def Nq (fv : Fv) (v : V) (s : Addr) : Prop := ∀ es a, fv = .seq true es → v = .ref a → a ≠ s
/-- all but what is a list at v is kept -/
def Kt (fv : Fv) (v : V) (H H' : Hp) : Prop := Ex H H' ∨ ∃ a es, fv = .seq true es ∧ v = .ref a ∧ Kp a H H'
theorem Kt.ex {fv : Fv} {v : V} {H H1 H2 : Hp} (k : Kt fv v H H1) (e : Ex H1 H2) : Kt fv v H H2 := by
  rcases k with k | ⟨a, es, h1, h2, k⟩
  · exact .inl (k.trans e)
  · exact .inr ⟨a, es, h1, h2, Kp.trans k (Kp.of e)⟩
theorem Kt.keep {fv : Fv} {v : V} {H H' : Hp} {b : Addr} {o : HO} (k : Kt fv v H H') (n : Nq fv v b) (h : H b = some o) : H' b = some o := by
  rcases k with k | ⟨a, es, h1, h2, k⟩
  · exact k _ _ h
  · exact k _ _ (n es a h1 h2).symm h
theorem kpi_ex {K : PySem.W.Frag} {H H' : Hp} (e : Ex H H') : KpI K H H' := ⟨fun b C dx fs h => e _ _ h, fun a xs h => ex_t e h⟩
theorem KpI.trans {K : PySem.W.Frag} {H H1 H2 : Hp} (k : KpI K H H1) (k2 : KpI K H1 H2) : KpI K H H2 := ⟨fun b C dx fs h => k2.i _ _ _ _ (k.i _ _ _ _ h), fun a xs h => k2.t _ _ (k.t _ _ h)⟩
section
variable {K : PySem.W.Frag} {C : Addr} {H H' : Hp} {σ : L2.St} {te tu tv : TE} {v u : V} {E : XK} {j : Nat}
theorem ev_isTy {t T : String} {b : Bool} (h : Ev te σ H v) (p : ∀ H1, Ex H H1 → TyX K H1 v (.type t)) (e : kitB t T = some b) : Ev (tCB (rIsi K) (tCons te (tCons (tC (.ty T)) tNil))) σ H (.bl b) :=
  ev_cb (ea_cons h (ea_cons ev_c ea_nil)) (rc_isi (.ty T) p (kit_ty e))
theorem ev_kr {l : Addr} {v0 v1 v2 v3 v4 v5 v6 : V} {dn db dz dh dk dr : PyData} {fv : Fv} (hσ : σ[j]? = some (some (.ref l))) (h : Kv7 K C H l v0 v1 v2 v3 v4 v5 v6 dn fv db dz dh dk dr) : Ev (tCall (spKR K C) [] E (tCons (tVar j) tNil)) σ H (.bl (fKR dn fv db dz dh dk dr)) := fun H1 e Q q =>
  ⟨_, hσ, l, v0, v1, v2, v3, v4, v5, v6, dn, fv, db, dz, dh, dk, dr, rfl, h.mono e, fun H2 e2 => q H2 e2⟩
theorem ev_sameL {xs : List V} {d e : PyData} (hu : Ev tu σ H u) (hv : EvL tv σ H xs) (pu : ∀ H1, Ex H H1 → Shn K H1 u d) (px : ∀ H1 p, Ex H H1 → H1 p = some (.lst xs) → Shn K H1 (.ref p) e) (fd : Fit d) (fe : Fit e) : Ev (tCall (spSame K) [] E (tCons tu (tCons tv tNil))) σ H (.bl (decide (d.shown = e.shown))) := fun H1 e1 Q q =>
  hu H1 e1 _ fun H2 e2 => hv H2 (e1.trans e2) _ fun p H3 hn e3 hp => ⟨u, .ref p, d, e, rfl, fun H4 x4 => pu H4 ((e1.trans (e2.trans e3)).trans x4), fun H4 x4 => px H4 p ((e1.trans (e2.trans e3)).trans x4) (x4 _ _ hp), fd, fe, fun H4 e4 => q H4 ((e2.trans e3).trans e4)⟩
theorem ev_sameLL {xs ys : List V} {d e : PyData} (hu : EvL tu σ H xs) (hv : EvL tv σ H ys) (pu : ∀ H1 p, Ex H H1 → H1 p = some (.lst xs) → Shn K H1 (.ref p) d) (px : ∀ H1 p, Ex H H1 → H1 p = some (.lst ys) → Shn K H1 (.ref p) e) (fd : Fit d) (fe : Fit e) : Ev (tCall (spSame K) [] E (tCons tu (tCons tv tNil))) σ H (.bl (decide (d.shown = e.shown))) := fun H1 e1 Q q =>
  hu H1 e1 _ fun p H2 _ e2 hp => hv H2 (e1.trans e2) _ fun r H3 hn e3 hr => ⟨.ref p, .ref r, d, e, rfl, fun H4 x4 => pu H4 p ((e1.trans (e2.trans e3)).trans x4) (x4 _ _ (e3 _ _ hp)), fun H4 x4 => px H4 r ((e1.trans (e2.trans e3)).trans x4) (x4 _ _ hr), fd, fe, fun H4 e4 => q H4 ((e2.trans e3).trans e4)⟩
end
/-! the data of a kind, but its fields -/
def kdD (kd : Kd) : PyData := .list [.str kd.name, oD kd.base, .bool kd.frozen, .bool kd.heirs, oD kd.key, .bool kd.registered]
def kdV (kd : Kd) : List V := [.str kd.name, oV kd.base, .bl kd.frozen, .bl kd.heirs, oV kd.key, .bl kd.registered]
structure KdPl (kd : Kd) : Prop where
  n : plA (.str kd.name) = true
  b : plA (oD kd.base) = true
  k : plA (oD kd.key) = true
theorem plA_of {K : PySem.W.Frag} {H : Hp} {v : V} {o : Option Str} (p : PV K H v (oD o)) : plA (oD o) = true := by
  rcases pv_pl p with h | h
  · cases o <;> exact h
  · cases o <;> cases h
theorem kd_pl {K : PySem.W.Frag} {C : Addr} {H : Hp} {l : Addr} {v0 v1 v2 v3 v4 v5 v6 : V} {dn db dz dh dk dr : PyData} {fv : Fv} {kd : Kd} (g : Kv7 K C H l v0 v1 v2 v3 v4 v5 v6 dn fv db dz dh dk dr) (h : KdD kd dn fv db dz dh dk dr) : KdPl kd := by
  obtain ⟨h1, h2, h3, h4, h5, h6, h7⟩ := h
  subst h1 h3 h6
  refine ⟨?_, plA_of g.b, plA_of g.k⟩
  rcases pv_pl g.n with h | h
  · exact h
  · cases h
theorem kd_vals {K : PySem.W.Frag} {C : Addr} {H : Hp} {l : Addr} {v0 v1 v2 v3 v4 v5 v6 : V} {dn db dz dh dk dr : PyData} {fv : Fv} {kd : Kd} (g : Kv7 K C H l v0 v1 v2 v3 v4 v5 v6 dn fv db dz dh dk dr) (h : KdD kd dn fv db dz dh dk dr) : [v0, v2, v3, v4, v5, v6] = kdV kd := by
  obtain ⟨h1, h2, h3, h4, h5, h6, h7⟩ := h
  subst h1 h3 h4 h5 h6 h7
  obtain ⟨rfl, _⟩ := pv_str g.n
  obtain rfl := pv_o g.b
  obtain rfl := pv_bool g.z
  obtain rfl := pv_bool g.h
  obtain rfl := pv_o g.k
  obtain rfl := pv_bool g.r
  rfl
theorem dp_o {K : PySem.W.Frag} {H : Hp} (o : Option Str) : Dp K H (oV o) (oD o) := by
  cases o with
  | none => exact .non
  | some x => exact .str x
theorem kd_dp {K : PySem.W.Frag} {H : Hp} {p : Addr} {kd : Kd} (h : H p = some (.lst (kdV kd))) : Dp K H (.ref p) (kdD kd) :=
  .lst (SqL.of h) (.cons (.str _) (.cons (dp_o _) (.cons (.bl _) (.cons (.bl _) (.cons (dp_o _) (.cons (.bl _) .nil))))))
theorem kd_fit {kd : Kd} (h : KdPl kd) : Fit (kdD kd) ∧ (kdD kd).hasDict = false := by
  have s1 : Shw 200 3 (.str kd.name) := sw_atom h.n
  have s2 : Shw 200 3 (oD kd.base) := sw_atom h.b
  have s3 : ∀ b : Bool, Shw 200 3 (.bool b) := fun b => sw_atom rfl
  have s5 : Shw 200 3 (oD kd.key) := sw_atom h.k
  have : Shw 1206 4 (kdD kd) := sw_lst (sw_cons s1 (sw_cons s2 (sw_cons (s3 _) (sw_cons (s3 _) (sw_cons s5 (sw_cons (s3 _) sw_nil))))))
  exact ⟨Shw.fit this, this.nd⟩
theorem kd_shn {K : PySem.W.Frag} {H : Hp} {p : Addr} {kd : Kd} (h : H p = some (.lst (kdV kd))) (hp : KdPl kd) : Shn K H (.ref p) (kdD kd) := .dp (kd_dp h) (kd_fit hp).2
theorem kd_len {dn : PyData} {fv : Fv} {db dz dh dk dr : PyData} {kd : Kd} (h : KdD kd dn fv db dz dh dk dr) (hr : fKR dn fv db dz dh dk dr = true) : kd.fields.length ≤ 10 := by
  obtain ⟨_, ⟨b, rfl⟩, _⟩ := h
  simp only [fKR, kc1, fAF, Bool.and_eq_true, Bool.not_eq_true', Bool.or_eq_false_iff, Bool.not_eq_false', decide_eq_true_eq, List.length_map] at hr
  exact hr.1.2.1
theorem given_none (n : Nat) (v : Nat → V) : given n (fun _ => false) v = [] := by
  simp [given]
def spKT (K : PySem.W.Frag) (C : Addr) : Sp := fun vs H Q _ => ∃ (l lh : Addr) (xs : List V) (v0 v1 v2 v3 v4 v5 v6 : V) (dn : PyData) (fv : Fv) (db dz dh dk dr : PyData), vs = [.ref l, .ref lh] ∧ Kv7 K C H l v0 v1 v2 v3 v4 v5 v6 dn fv db dz dh dk dr ∧ H lh = some (.lst xs) ∧ Nq fv v1 l ∧ Nq fv v1 lh ∧
  (∀ b es, fv = .seq b es → ∃ a, v1 = .ref a ∧ SqB K H b a xs ∧ Paired (fun x e => ElAt K C e x H) xs es) ∧ ∀ H', Kt fv v1 H H' → KpI K H H' → Q (.bl true) H'
section
variable {P : Program} {w : World} {K : PySem.W.Frag} {mg : Str → Option Value} {base : Heap}
theorem ok_kind_told (T : Txt P K mg) : FnG P w K mg base CX0 6 T.f_kind_told T.d_kind_told P_kind_told (spKT K T.C_Field) := by
  have G_kind_made := ok_kind_made (P := P) (w := w) (base := base) T
  have G_kind_right := ok_kind_right (P := P) (w := w) (base := base) T
  have G_same := ok_same (P := P) (w := w) (base := base) T
  have G_Field_eq := ok_Field_eq (P := P) (w := w) (base := base) T
  have GH_kind_right := okh_kind_right (P := P) (w := w) (base := base) T
  have GH_same := okh_same (P := P) (w := w) (base := base) T
  refine okG T.F_kind_told sc_kind_told (fun vs H Q E h => ?_) (fun cdv A outer s H vs Q E hgd hr h => ?_)
  · obtain ⟨l, lh, xs, v0, v1, v2, v3, v4, v5, v6, dn, fv, db, dz, dh, dk, dr, rfl, _⟩ := h
    rfl
  · obtain ⟨l, lh, xs, v0, v1, v2, v3, v4, v5, v6, dn, fv, db, dz, dh, dk, dr, rfl, g, hlh, n1, n2, hsq, kont⟩ := h
    refine ⟨_, (pss_cons (L2N.ps_try_as (i := 3) rfl rfl sc_kind_told.nd rfl rfl ⟨by rfl, by decide, .inl T.g_BadKind⟩ Way.takesN0 (fun W pn xe tk _ => (pss_one (ps_set (i := 2) sc_kind_told.nd rfl (Or.inr rfl) (pe_callS G_kind_made hr (by rfl) T.g_kind_made T.F_kind_made.kp T.B_kind_made (fun σ => L2N.passAt tk σ) (pa_cons (pv 0) pa_nil))))) (fun a oe cls d pn hzn hf => have hz := L2N.Zn.zc hzn; have hc := Way.hotS hzn hf; (pss_one (ps_ret (pe_and (pe_not (Way.pe_callH0 GH_kind_right hc (roomH_suite (hr.mono (by decide : 3 ≤ 5))) (by rfl) T.g_kind_right T.F_kind_right.kp T.B_kind_right (pa_cons (pv 0) pa_nil))) (pe_one (Way.pe_callHG GH_same hgd hc (roomH_suite (hr.mono (by decide : 1 ≤ 5))) (by rfl) T.g_same T.F_same.kp T.B_same (pa_cons (pe_xf T.X_BadKind.xf T.na_BadKind_name hz hf (pv 3)) (pa_cons (pe_ix (Way.kk_ixL (K := K)) (pv 0) pe_int (fun _ _ => rfl)) pa_nil)))))))))
      (pss_cons (ps_if (pt_not (pt_val (pe_call G_kind_right (hr.mono (by decide)) (by rfl) T.g_kind_right T.F_kind_right.kp T.B_kind_right .nil pass0 (pa_cons (pv 0) pa_nil)))) (pss_one (ps_ret pe_bl)) pss_nil)
      (pss_cut (ps_if (pt_val (pe_callB call_isi (by rfl) T.b_isinstance (by decide +kernel) (pa_cons (pe_ix ix_list (pv 0) pe_int (fun _ _ => rfl)) (pa_cons (pe_bltn (v := .ty "list") (by rfl) T.b_list (by decide +kernel) rfl) pa_nil)))) (pss_one (ps_expr (pe_bm PySem.F.plainAttrs_list PySem.F.slot_list_append PySem.F.type_list_append mt_append (pe_ix ix_list (pv 0) pe_int (fun _ _ => rfl)) (pa_cons pe_non pa_nil)))) pss_nil)
      (pss_cons (ps_set (i := 4) sc_kind_told.nd rfl (Or.inl rfl) (pe_lst (pa_cons (pe_fld (pv 2) rfl) (pa_cons (pe_fld (pv 2) rfl) (pa_cons (pe_fld (pv 2) rfl) (pa_cons (pe_fld (pv 2) rfl) (pa_cons (pe_fld (pv 2) rfl) (pa_cons (pe_fld (pv 2) rfl) pa_nil))))))))
      (pss_cons (ps_if (PW.pt (pw_or (pt_not (pt_val (Way.pe_callG G_same hgd (hr.mono (by decide)) (by rfl) T.g_same T.F_same.kp T.B_same .nil pass0 (pa_cons (pv 4) (pa_cons (pe_op op_cat (pe_lst (pa_cons (pe_ix ix_list (pv 0) pe_int (fun _ _ => rfl)) pa_nil)) (pe_slice sl_list (pv 0) (po_some pe_int) po_none)) pa_nil))))) (pw_or1 (pt_not (pt_val (pe_callB call_isi (by rfl) T.b_isinstance (by decide +kernel) (pa_cons (pe_fld (pv 2) rfl) (pa_cons (pe_bltn (v := .ty "tuple") (by rfl) T.b_tuple (by decide +kernel) rfl) pa_nil)))))))) (pss_one (ps_ret pe_bl)) pss_nil)
      (pss_one (ps_ret (pe_and (pe_cmpR op_eq (pe_callB call_len_seq (by rfl) T.b_len (by decide +kernel) (pa_cons (pe_fld (pv 2) rfl) pa_nil)) (pe_callB call_len_seq (by rfl) T.b_len (by decide +kernel) (pa_cons (pv 1) pa_nil)) (nomark _)) (pe_one (pe_cmpR op_eq (pe_callB call_len_seq (by rfl) T.b_len (by decide +kernel) (pa_cons (pe_lc (own := [("_law_k", 5)]) (g := gName 5) (by rfl) sc_kind_told.nd (pi_range1 (by rfl) T.b_range (pa_cons (pe_callB call_len_seq (by rfl) T.b_len (by decide +kernel) (pa_cons (pv 1) pa_nil)) pa_nil)) (blkOk_by (own := [("_law_k", 5)]) (N := N_kind_told) (sc := defScope s_kind_told) (by decide +kernel)) (fun _ _ _ _ _ => (pg_name (i := 5) sc_kind_told.nd rfl (Or.inl rfl))) (fun _ _ _ _ _ => (pts_one (pt_cmpR (kk_neF T G_Field_eq (hr.mono (by decide))) (pe_ix (Way.kk_ixT (K := K)) (Way.kk_fld (K := K) (pv 2) rfl) (pv 5) (fun _ _ => rfl)) (pe_ix (Way.kk_ixL (K := K)) (pv 1) (pv 5) (fun _ _ => rfl)) (nomark _)))) (fun _ _ _ _ _ => (pv 5))) pa_nil)) pe_int (nomark _))))))))))), ?_⟩
    refine ⟨_, rfl, l, v0, v1, v2, v3, v4, v5, v6, dn, fv, db, dz, dh, dk, dr, rfl, g, fun hr' kd v H1 hk X1 hK => ?_, fun hf d H1 X1 hd => ⟨true, T.X_BadKind.exmSelf, fun _ a ha => ?_, fun z => nomatch z⟩⟩
    · refine q_when (b := false) (et_is (et_not (a := true) (et_B (ev_is (ev_kr rfl (g.mono X1)) (by rw [hr'])))) rfl) (fun q => nomatch q) (fun _ H2 X2 => ?_)
      have X12 := X1.trans X2
      have hl2 := X12 _ _ g.hl
      obtain ⟨bb, e2⟩ := hk.f
      obtain ⟨a, rfl, hs, hp⟩ := hsq bb _ e2
      have ln := kd_len hk hr'
      have lx : xs.length = kd.fields.length := by rw [Paired.length hp, List.length_map]
      have ety : ∃ t, (∀ H1, Ex H2 H1 → TyX K H1 (.ref a) (.type t)) ∧ kitB t "list" = some bb := by
        cases bb with
        | true => exact ⟨"list", fun H1 e => .base (.lst (e _ _ (X12 _ _ hs))), kd_list (d := .list [])⟩
        | false => exact ⟨"tuple", fun H1 e => ty_sqT (ex_t (X12.trans e) hs), kd_list (d := .tuple [])⟩
      obtain ⟨ty, t1, t2⟩ := ety
      refine q_cut (M := fun σ' H' => σ' = [some (.ref l), some (.ref lh), some v, none, none, none] ∧ KAt K T.C_Field T.C_Kind kd v H' ∧ Kt fv (.ref a) H H' ∧ KpI K H H') ?_ ?_
      · refine s_when (et_B (ev_isTy (ev_ix 1 rfl hl2 rfl) t1 t2)) (fun q H3 X3 => ?_) (fun q H3 X3 => ?_)
        · subst q
          have hs3 := X3 _ _ (X12 _ _ hs)
          refine s_app hs3 (ev_ix 1 rfl (X3 _ _ hl2) rfl) ev_c (by omega) fun H4 X4 => ?_
          have hs4 := X4 _ _ hs3
          have KI : KpI K H4 (upd H4 a (.lst (xs ++ [.non]))) := kpi_lst hs4 (Kp.set (Kp.refl _ _))
          have X04 := (X12.trans X3).trans X4
          exact ⟨rfl, (hK.mono (X2.trans (X3.trans X4))).keep KI, .inr ⟨a, _, e2, rfl, Kp.set (Kp.of X04)⟩, (kpi_ex X04).trans KI⟩
        · exact ⟨rfl, hK.mono (X2.trans X3), Or.inl (X12.trans X3), kpi_ex (X12.trans X3)⟩
      · rintro σ' H3 ⟨rfl, hK3, kf3, ki3⟩
        have hl3 := kf3.keep n1 g.hl
        have hlh3 := kf3.keep n2 hlh
        have pl := kd_pl g hk
        have vv := kd_vals g hk
        obtain ⟨x, dx, fs, ft, ys, rfl, h1, h2, h3, h4, h5, h6, h7, h8, h9, h10⟩ := hK3
        have ly : ys.length = kd.fields.length := Paired.length h10
        refine q_asgL (el_lst (ea_cons (ev_fld (ev_var rfl) h1 T.cl_Kind T.na_Kind_name h2) (ea_cons (ev_fld (ev_var rfl) h1 T.cl_Kind T.na_Kind_base h4) (ea_cons (ev_fld (ev_var rfl) h1 T.cl_Kind T.na_Kind_frozen h5) (ea_cons (ev_fld (ev_var rfl) h1 T.cl_Kind T.na_Kind_heirs h6) (ea_cons (ev_fld (ev_var rfl) h1 T.cl_Kind T.na_Kind_key h7) (ea_cons (ev_fld (ev_var rfl) h1 T.cl_Kind T.na_Kind_registered h8) ea_nil)))))) (Nat.le_of_ble_eq_true rfl)) fun tl H4 htl X4 h4' => ?_
        have hl4 := X4 _ _ hl3
        have h14 := X4 _ _ h1
        have h94 := ex_t X4 h9
        have hlh4 := X4 _ _ hlh3
        refine q_when (b := false) (et_is (et_or (a := false) (b := false) (et_not (a := true) (et_B (ev_is (ev_sameL (d := kdD kd) (e := kdD kd) (ev_var rfl) (el_catL (el_lst (ea_cons (ev_ix 0 rfl hl4 rfl) ea_nil) (Nat.le_of_ble_eq_true rfl)) (el_sl (K := K) (ev_var rfl) (eo_some ev_c) eo_none (sq_of hl4)) (Nat.le_of_ble_eq_true rfl)) (fun H5 X5 => kd_shn (X5 _ _ h4') pl) (fun H5 p X5 h5 => kd_shn (h5.trans (congrArg (fun z => some (HO.lst z)) vv)) pl) (kd_fit pl).1 (kd_fit pl).1) (by simp)))) fun _ => et_not (a := true) (et_B (ev_isTy (ev_fld (ev_var rfl) h14 T.cl_Kind T.na_Kind_fields h3) (fun H5 X5 => ty_sqT (ex_t X5 h94)) (kd_tuple (d := .tuple []))))) rfl) (fun q => nomatch q) (fun _ H5 X5 => ?_)
        have hlh5 := X5 _ _ hlh4
        have h15 := X5 _ _ h14
        have h95 := ex_t X5 h94
        have elh : ∀ H6, Ex H5 H6 → Ev (tCB (rLenS K) (tCons (tVar 1) tNil)) [some (.ref l), some (.ref lh), some (.ref x), none, some (.ref tl), none] H6 (.int (xs.length : Int)) := fun H6 X6 => ev_cb (ea_cons (ev_var rfl) ea_nil) fun H7 X7 _ q => ⟨lh, xs, rfl, .inl (SqL.of ((X6.trans X7) _ _ hlh5)), q H7 (Ex.refl H7)⟩
        refine s_ret (ev_is (ev_andV (ev_op (ev_cb (ea_cons (ev_fld (ev_var rfl) h15 T.cl_Kind T.na_Kind_fields h3) ea_nil) fun H7 X7 _ q => ⟨ft, ys, rfl, .inr (ex_t X7 h95), q H7 (Ex.refl H7)⟩) (elh H5 (Ex.refl H5)) (rv_eq rfl)) fun _ => ev_op (ev_lenN (K := K) (el_lcR1 (n := (xs.length : Int)) (fun _ => false) (fun _ => .non) (ea_cons (elh H5 (Ex.refl H5)) ea_nil) (by omega) (fun _ => rfl) (fun i H6 X6 hi => ?_) (fun i H6 X6 hi z => nomatch z))) ev_c (rv_eq rfl)) ?_) fun H6 X6 => kont H6 (kf3.ex (X4.trans (X5.trans X6))) (ki3.trans (kpi_ex (X4.trans (X5.trans X6))))
        · have hi' : i < ys.length := by omega
          have hx' : i < xs.length := by omega
          obtain ⟨f, hf, pf⟩ := pr_at h10 (List.getElem?_eq_getElem hi')
          obtain ⟨e, he, pe'⟩ := pr_at hp (List.getElem?_eq_getElem hx')
          rw [List.getElem?_map, hf] at he
          cases he
          have X36 := X4.trans (X5.trans X6)
          have pe2 : FAt K T.C_Field f xs[i] H6 := (FAt.keep ki3 pe').mono X36
          exact et_is (et_test (ev_op (ev_op (ev_fld (ev_var rfl) (X6 _ _ h15) T.cl_Kind T.na_Kind_fields h3) (ev_var rfl) (rv_ixT (ex_t X6 h95) (at_of (j := i) rfl (List.getElem?_eq_getElem hi')))) (ev_op (ev_var rfl) (ev_var rfl) (rv_ixL (sq_of (X6 _ _ hlh5)) (at_of (j := i) rfl (List.getElem?_eq_getElem hx')))) (rvb_neF T (pf.mono X36) pe2))) (by simp)
        · rw [given_none, ly, lx]
          simp
    · exact s_ret (ev_is (ev_andV (ev_notV (ev_kr rfl (g.mono X1))) fun _ => ev_same (ev_xf (ev_var rfl) hd rfl) (ev_ix 0 rfl (X1 _ _ g.hl) rfl) (fun H4 X4 => pv_shn (g.n.mono (X1.trans X4))) (fun H4 X4 => pv_shn (g.n.mono (X1.trans X4))) (pv_fit g.n) (pv_fit g.n)) (by rw [hf]; simp)) fun H2 X2 => kont H2 (.inl (X1.trans X2)) (kpi_ex (X1.trans X2))
end
end K01

namespace K01
open PySem L2 Way Evl
/-! a kind's seven values, and seven more -/
theorem pr_drop {R : V → El → Prop} : ∀ {xs : List V} {es : List El}, Paired R xs es → Paired R xs.dropLast es.dropLast
  | [], [], .nil => .nil
  | [_], [_], .cons _ .nil => .nil
  | _ :: _ :: _, _ :: _ :: _, .cons a (.cons b r) => .cons a (pr_drop (.cons b r))
theorem FvAt.kq {K : PySem.W.Frag} {C s : Addr} {H H' : Hp} {v : V} {fv : Fv} (h : FvAt K C fv v H) (o : Off H s) (ki : KpI K H H') (k : Kp s H H') (n : Nq fv v s) : FvAt K C fv v H' := by
  cases fv with
  | dat d => exact ⟨h.1.kp o k, h.2⟩
  | seq b es =>
    obtain ⟨a, xs, rfl, hs, hp⟩ := h
    refine ⟨a, xs, rfl, ?_, Paired.mapP hp fun _ _ q => elAt_kp o ki k q⟩
    cases b with
    | true => exact k _ _ (n es a rfl rfl) hs
    | false => exact ki.t _ _ hs
section
variable {K : PySem.W.Frag} {C l s : Addr} {H H' H0 : Hp} {v0 v1 v2 v3 v4 v5 v6 y : V} {dn db dz dh dk dr d : PyData} {fv : Fv}
theorem Kv7.kp (g : Kv7 K C H l v0 v1 v2 v3 v4 v5 v6 dn fv db dz dh dk dr) (o : Off H s) (ki : KpI K H H') (k : Kp s H H') (n : l ≠ s) (n1 : Nq fv v1 s) : Kv7 K C H' l v0 v1 v2 v3 v4 v5 v6 dn fv db dz dh dk dr :=
  ⟨k _ _ n g.hl, g.n.kp o k, g.f.kq o ki k n1, g.b.kp o k, g.z.kp o k, g.h.kp o k, g.k.kp o k, g.r.kp o k⟩
theorem kv7_of {vs : List V} (hl : H l = some (.lst vs)) (h : Kpv K C H0 vs H) : ∃ v0 v1 v2 v3 v4 v5 v6 dn fv db dz dh dk dr, vs = [v0, v1, v2, v3, v4, v5, v6] ∧ Kv7 K C H l v0 v1 v2 v3 v4 v5 v6 dn fv db dz dh dk dr ∧ ∀ a, v1 = .ref a → H0 a = none := by
  match vs, h.n, h, hl with
  | [v0, v1, v2, v3, v4, v5, v6], _, h, hl =>
    obtain ⟨dn, m0, _⟩ := h.o 0 v0 rfl (by decide)
    obtain ⟨db, m2, _⟩ := h.o 2 v2 rfl (by decide)
    obtain ⟨dz, m3, _⟩ := h.o 3 v3 rfl (by decide)
    obtain ⟨dh, m4, _⟩ := h.o 4 v4 rfl (by decide)
    obtain ⟨dk, m5, _⟩ := h.o 5 v5 rfl (by decide)
    obtain ⟨dr, m6, _⟩ := h.o 6 v6 rfl (by decide)
    obtain ⟨⟨fv, hf⟩, fr⟩ := h.f v1 rfl
    exact ⟨v0, v1, v2, v3, v4, v5, v6, dn, fv, db, dz, dh, dk, dr, rfl, ⟨hl, m0.p, hf, m2.p, m3.p, m4.p, m5.p, m6.p⟩, fr⟩
theorem kv7_set {j : Nat} (hj : j < 7) (h1 : j ≠ 1) (n : PV K H v0 dn) (f : FvAt K C fv v1 H) (b : PV K H v2 db) (z : PV K H v3 dz) (h : PV K H v4 dh) (k : PV K H v5 dk) (r : PV K H v6 dr) (py : PV K H y d) (hl : H l = some (.lst ([v0, v1, v2, v3, v4, v5, v6].set j y))) :
    ∃ w0 w2 w3 w4 w5 w6 en eb ez eh ek er, Kv7 K C H l w0 v1 w2 w3 w4 w5 w6 en fv eb ez eh ek er := by
  match j, hj, h1, hl with
  | 0, _, _, hl => exact ⟨y, v2, v3, v4, v5, v6, d, db, dz, dh, dk, dr, ⟨hl, py, f, b, z, h, k, r⟩⟩
  | 2, _, _, hl => exact ⟨v0, y, v3, v4, v5, v6, dn, d, dz, dh, dk, dr, ⟨hl, n, f, py, z, h, k, r⟩⟩
  | 3, _, _, hl => exact ⟨v0, v2, y, v4, v5, v6, dn, db, d, dh, dk, dr, ⟨hl, n, f, b, py, h, k, r⟩⟩
  | 4, _, _, hl => exact ⟨v0, v2, v3, y, v5, v6, dn, db, dz, d, dk, dr, ⟨hl, n, f, b, z, py, k, r⟩⟩
  | 5, _, _, hl => exact ⟨v0, v2, v3, v4, y, v6, dn, db, dz, dh, d, dr, ⟨hl, n, f, b, z, h, py, r⟩⟩
  | 6, _, _, hl => exact ⟨v0, v2, v3, v4, v5, y, dn, db, dz, dh, dk, d, ⟨hl, n, f, b, z, h, k, py⟩⟩
theorem kdd_inj {kd ke : Kd} (h : KdD kd dn fv db dz dh dk dr) (g : KdD ke dn fv db dz dh dk dr) : kd = ke := by
  obtain ⟨h1, ⟨b, h2⟩, h3, h4, h5, h6, h7⟩ := h
  obtain ⟨g1, ⟨b', g2⟩, g3, g4, g5, g6, g7⟩ := g
  subst h1 h2 h3 h4 h5 h6 h7
  have e2 : kd.fields = ke.fields := (List.map_inj_right (fun x y z => El.fld.inj z)).mp (Fv.seq.inj g2).2
  have oi : ∀ {a b : Option Str}, oD a = oD b → a = b := fun {a b} e => by
    cases a <;> cases b <;> simp_all [oD]
  have e3 := oi g3
  have e6 := oi g6
  cases kd; cases ke
  simp_all
end
/-- the fields that are handed on -/
structure Two (K : PySem.W.Frag) (C : Addr) (H : Hp) (lh : Addr) (xs ys : List V) (v1 w1 : V) (fv fw : Fv) : Prop where
  h : H lh = some (.lst xs)
  s : ∀ b es, fv = .seq b es → ∃ a a' es', v1 = .ref a ∧ SqB K H b a xs ∧ Paired (fun x e => ElAt K C e x H) xs es ∧ w1 = .ref a' ∧ H a' = some (.lst ys) ∧ fw = .seq true es' ∧ Paired (fun x e => ElAt K C e x H) ys es' ∧ (es' = es ∨ es' = es.dropLast)
section
variable {K : PySem.W.Frag} {C lh s : Addr} {H H' : Hp} {xs ys : List V} {v1 w1 : V} {fv fw : Fv}
theorem Two.mono (e : Ex H H') (t : Two K C H lh xs ys v1 w1 fv fw) : Two K C H' lh xs ys v1 w1 fv fw :=
  ⟨e _ _ t.h, fun b es q => let ⟨a, a', es', h1, h2, h3, h4, h5, h6, h7, h8⟩ := t.s b es q; ⟨a, a', es', h1, h2.mono e, Paired.mapP h3 fun _ _ q => elAt_mono _ _ _ _ e q, h4, e _ _ h5, h6, Paired.mapP h7 fun _ _ q => elAt_mono _ _ _ _ e q, h8⟩⟩
theorem Two.kp (t : Two K C H lh xs ys v1 w1 fv fw) (o : Off H s) (ki : KpI K H H') (k : Kp s H H') (n : lh ≠ s) (n1 : Nq fv v1 s) (n2 : Nq fw w1 s) : Two K C H' lh xs ys v1 w1 fv fw := by
  refine ⟨k _ _ n t.h, fun b es q => ?_⟩
  obtain ⟨a, a', es', h1, h2, h3, h4, h5, h6, h7, h8⟩ := t.s b es q
  refine ⟨a, a', es', h1, ?_, Paired.mapP h3 fun _ _ q => elAt_kp o ki k q, h4, k _ _ (n2 _ _ h6 h4) h5, h6, Paired.mapP h7 fun _ _ q => elAt_kp o ki k q, h8⟩
  cases b with
  | true => exact k _ _ (n1 _ _ q h1) h2
  | false => exact ki.t _ _ h2
end
theorem Pen.kt {H H' : Hp} {p c : Addr} {k : Nat} {fv : Fv} {v : V} (h : Pen H p c k) (e : Kt fv v H H') (n1 : Nq fv v p) (n2 : Nq fv v c) : Pen H' p c k := let ⟨cs, i, r, d, m, t, h1, h2, a⟩ := h; ⟨cs, i, r, d, m, t, e.keep n1 h1, e.keep n2 h2, a⟩
theorem kp_kt {p : Addr} {fv : Fv} {v : V} {H H1 H2 : Hp} (k : Kp p H H1) (e : Kt fv v H1 H2) (f : ∀ a, v = .ref a → H a = none) : Kp p H H2 := fun b o n h => e.keep (fun es a _ q z => by rw [← z, f a q] at h; cases h) (k b o n h)
theorem pv_sc {K : PySem.W.Frag} {H H' : Hp} {v : V} {d : PyData} (h : plA d = true) (p : PV K H v d) : PV K H' v d := by
  cases p with
  | emp q => cases h
  | dp q p =>
    cases q with
    | non => exact .dp .non p
    | bl b => exact .dp (.bl b) p
    | int i => exact .dp (.int i) p
    | str x => exact .dp (.str x) p
    | lst _ _ => cases h
    | tup _ _ => cases h
theorem Kv7.sc {K : PySem.W.Frag} {C l l' : Addr} {H H' : Hp} {v0 v1 v2 v3 v4 v5 v6 w1 : V} {dn db dz dh dk dr : PyData} {fv fw : Fv} {kd : Kd} (g : Kv7 K C H l v0 v1 v2 v3 v4 v5 v6 dn fv db dz dh dk dr) (hk : KdD kd dn fv db dz dh dk dr) (hl : H' l' = some (.lst [v0, w1, v2, v3, v4, v5, v6])) (f : FvAt K C fw w1 H') : Kv7 K C H' l' v0 w1 v2 v3 v4 v5 v6 dn fw db dz dh dk dr := by
  have pl := kd_pl g hk
  have e := hk
  obtain ⟨h1, h2, h3, h4, h5, h6, h7⟩ := hk
  subst h1 h3 h4 h5 h6 h7
  exact ⟨hl, pv_sc pl.n g.n, f, pv_sc pl.b g.b, pv_sc rfl g.z, pv_sc rfl g.h, pv_sc pl.k g.k, pv_sc rfl g.r⟩
theorem el_keep {K : PySem.W.Frag} {C : Addr} {H H' : Hp} {xs : List V} {fs : List Fd} (ki : KpI K H H') (h : Paired (fun x e => ElAt K C e x H) xs (fs.map .fld)) : Paired (fun x e => ElAt K C e x H') xs (fs.map .fld) := pr_el (Paired.mapP (pr_fld h) fun _ _ q => q.keep ki)
theorem nq_fr {H : Hp} {fv : Fv} {v : V} {s : Addr} {o : HO} (f : ∀ a, v = .ref a → H a = none) (h : H s = some o) : Nq fv v s := fun es a _ q z => by rw [← z, f a q] at h; cases h
theorem nq_at {K : PySem.W.Frag} {C s : Addr} {H : Hp} {fv : Fv} {v : V} (h : FvAt K C fv v H) (hs : H s = none) : Nq fv v s := fun es a e q z => by
  subst e
  obtain ⟨a', xs, e', h1, _⟩ := h
  rw [q] at e'
  cases e'
  rw [z] at h1
  have h1' : H s = some (.lst xs) := h1
  rw [hs] at h1'; cases h1'
/-! the law of it -/
theorem decide_and' {p q : Prop} [Decidable p] [Decidable q] [Decidable (p ∧ q)] : decide (p ∧ q) = (decide p && decide q) := by
  by_cases h1 : p <;> by_cases h2 : q <;> simp [h1, h2]
theorem kd_same {k l : Kd} (hk : KdPl k) (hl : KdPl l) : decide ((kdD k).shown = (kdD l).shown) = (decide (k.name = l.name) && (decide (k.base = l.base) && (decide (k.frozen = l.frozen) && (decide (k.heirs = l.heirs) && (decide (k.key = l.key) && decide (k.registered = l.registered)))))) := by
  have ps : ∀ {k : Kd}, KdPl k → ∀ x ∈ [PyData.str k.name, oD k.base, .bool k.frozen, .bool k.heirs, oD k.key, .bool k.registered], plA x = true := fun {k} h x hx => by
    simp only [List.mem_cons, List.not_mem_nil, or_false] at hx
    rcases hx with rfl | rfl | rfl | rfl | rfl | rfl
    · exact h.n
    · exact h.b
    · rfl
    · rfl
    · exact h.k
    · rfl
  have oi : ∀ {a b : Option Str}, oD a = oD b → a = b := fun {a b} e => by
    cases a <;> cases b <;> simp_all [oD]
  have key : ((kdD k).shown = (kdD l).shown) ↔ (k.name = l.name ∧ k.base = l.base ∧ k.frozen = l.frozen ∧ k.heirs = l.heirs ∧ k.key = l.key ∧ k.registered = l.registered) := by
    constructor
    · intro h
      have e := list_inj (by rfl) (fun x hx => ps hk x ((List.dropLast_sublist _).subset hx)) (fun x hx => ps hl x ((List.dropLast_sublist _).subset hx)) h
      simp only [List.map_cons, List.map_nil, List.cons.injEq, and_true] at e
      obtain ⟨e1, e2, e3, e4, e5, e6⟩ := e
      exact ⟨PyData.str.inj (atom_inj (d := .str k.name) (e := .str l.name) hk.n hl.n e1), oi (atom_inj hk.b hl.b e2), PyData.bool.inj (atom_inj (d := .bool k.frozen) (e := .bool l.frozen) rfl rfl e3), PyData.bool.inj (atom_inj (d := .bool k.heirs) (e := .bool l.heirs) rfl rfl e4), oi (atom_inj hk.k hl.k e5), PyData.bool.inj (atom_inj (d := .bool k.registered) (e := .bool l.registered) rfl rfl e6)⟩
    · rintro ⟨h1, h2, h3, h4, h5, h6⟩
      unfold kdD
      rw [h1, h2, h3, h4, h5, h6]
  rw [show decide ((kdD k).shown = (kdD l).shown) = decide (k.name = l.name ∧ k.base = l.base ∧ k.frozen = l.frozen ∧ k.heirs = l.heirs ∧ k.key = l.key ∧ k.registered = l.registered) from decide_eq_decide.mpr key]
  simp only [decide_and']
theorem like_of {es es' : List Fd} (h : es' = es ∨ es' = es.dropLast) : ∀ (i : Nat) f g, es[i]? = some f → es'[i]? = some g → f = g := by
  intro i f g h1 h2
  rcases h with rfl | rfl
  · rw [h1] at h2; exact Option.some.inj h2
  · rw [List.getElem?_dropLast] at h2
    split at h2
    · rw [h1] at h2; exact Option.some.inj h2
    · cases h2
theorem kd_alike {k l : Kd} (hk : KdPl k) (hl : KdPl l) (h : l.fields = k.fields ∨ l.fields = k.fields.dropLast) : decide (k = l) = (decide ((kdD k).shown = (kdD l).shown) && decide ((k.fields.length : Int) = (l.fields.length : Int))) := by
  rw [kd_eq, kd_same hk hl, like_len (like_of h)]
  have e : (k.fields.length == l.fields.length) = decide ((k.fields.length : Int) = (l.fields.length : Int)) := by
    by_cases z : k.fields.length = l.fields.length
    · rw [z]; simp
    · have : ¬ (k.fields.length : Int) = (l.fields.length : Int) := by omega
      simp [z, this]
  rw [e]
  cases decide (k.name = l.name) <;> cases decide (k.base = l.base) <;> cases decide (k.frozen = l.frozen) <;> cases decide (k.heirs = l.heirs) <;> cases decide (k.key = l.key) <;> cases decide (k.registered = l.registered) <;> simp
end K01

namespace K01
open PySem L2 Way Evl
def spKA : Sp := fun vs H Q _ => ∃ (p c ln lp : Addr) (k : Nat) (names pool : List Str), vs = [.ref p, .ref ln, .ref lp] ∧ Pen H p c k ∧ k ≤ 40000 ∧ Src H p ln lp names pool ∧ 0 < names.length ∧ 11 ≤ pool.length ∧ ∀ H', Kp p H H' → Pen H' p c (k + 327) → Q (.bl true) H'
section
variable {P : Program} {w : World} {K : PySem.W.Frag} {mg : Str → Option Value} {base : Heap}
theorem rvb_eqK (T : Txt P K mg) {f g : Kd} {x y : V} {H : Hp} (hx : KAt K T.C_Field T.C_Kind f x H) (hy : KAt K T.C_Field T.C_Kind g y H) (hl : g.fields = f.fields ∨ g.fields = f.fields.dropLast) : RV (rEqB (DOwn K T.C_Kind (RK K T.C_Field T.C_Kind))) x y H (.bl (decide (f = g))) := fun H1 e Q q => by
  obtain ⟨a, dx, fs, ft, xs, rfl, ha, _⟩ := id (hx.mono e)
  obtain ⟨c, dy, gs, gt, ys, rfl, hc, _⟩ := id (hy.mono e)
  exact ⟨_, ⟨a, dx, _, .ref T.C_Kind, rfl, ha, T.ic_Kind.ty T.cl_Kind hc, notFirst_self, f, hx.mono e, .inl ⟨g, hy.mono e, like_of hl, rfl⟩⟩, fun H2 e2 => q H2 e2⟩
theorem rvb_neK (T : Txt P K mg) {f g : Kd} {x y : V} {H : Hp} (hx : KAt K T.C_Field T.C_Kind f x H) (hy : KAt K T.C_Field T.C_Kind g y H) (hl : g.fields = f.fields ∨ g.fields = f.fields.dropLast) : RV (rNeB (DOwn K T.C_Kind (RK K T.C_Field T.C_Kind))) x y H (.bl (!decide (f = g))) := fun H1 e Q q => by
  obtain ⟨a, dx, fs, ft, xs, rfl, ha, _⟩ := id (hx.mono e)
  obtain ⟨c, dy, gs, gt, ys, rfl, hc, _⟩ := id (hy.mono e)
  exact ⟨_, ⟨a, dx, _, .ref T.C_Kind, rfl, ha, T.ic_Kind.ty T.cl_Kind hc, notFirst_self, f, hx.mono e, .inl ⟨g, hy.mono e, like_of hl, rfl⟩⟩, fun H2 e2 => q H2 e2⟩
theorem rvb_neKd (T : Txt P K mg) {f : Kd} {x y : V} {d : PyData} {H : Hp} (hx : KAt K T.C_Field T.C_Kind f x H) (hy : PV K H y d) : RV (rNeB (DOwn K T.C_Kind (RK K T.C_Field T.C_Kind))) x y H (.bl true) := fun H1 e Q q => by
  obtain ⟨a, dx, fs, ft, xs, rfl, ha, _⟩ := id (hx.mono e)
  obtain ⟨l, m1, m2⟩ := noC_mro d
  exact ⟨false, ⟨a, dx, _, .type (tyD d), rfl, ha, (hy.mono e).ty, notFirst_no m1 m2, f, hx.mono e, .inr ⟨fun H5 e5 => noC_pv (hy.mono (e.trans e5)), rfl⟩⟩, fun H2 e2 => q H2 e2⟩
theorem ok_kinds_asked (T : Txt P K mg) : FnG P w K mg base CX0 10 T.f_kinds_asked T.d_kinds_asked P_kinds_asked spKA := by
  have G_kind_parts := ok_kind_parts (P := P) (w := w) (base := base) T
  have G_take := ok_take (P := P) (w := w) (base := base) T
  have G_kind_made := ok_kind_made (P := P) (w := w) (base := base) T
  have G_kind_told := ok_kind_told (P := P) (w := w) (base := base) T
  have G_same := ok_same (P := P) (w := w) (base := base) T
  have G_kind_right := ok_kind_right (P := P) (w := w) (base := base) T
  have G_Kind_eq := ok_Kind_eq (P := P) (w := w) (base := base) T
  refine okG T.F_kinds_asked sc_kinds_asked (fun vs H Q E h => ?_) (fun cdv A outer s H vs Q E hgd hr h => ?_)
  · obtain ⟨p, c, ln, lp, k, names, pool, rfl, _⟩ := h
    rfl
  · obtain ⟨p, c, ln, lp, k, names, pool, rfl, hP, hk, hS, hn0, hp11, kont⟩ := h
    refine ⟨_, (pss_cons (ps_set (i := 3) sc_kinds_asked.nd rfl (Or.inl rfl) (Way.pe_callG G_kind_parts hgd hr (by rfl) T.g_kind_parts T.F_kind_parts.kp T.B_kind_parts .nil pass0 (pa_cons (pv 0) (pa_cons (pv 1) (pa_cons (pv 2) pa_nil)))))
      (pss_cons (ps_set (i := 4) sc_kinds_asked.nd rfl (Or.inl rfl) (pe_callTy call_list_of (by rfl) T.b_list (by decide +kernel) (pa_cons (pv 3) pa_nil)))
      (pss_cons (ps_set (i := 5) sc_kinds_asked.nd rfl (Or.inl rfl) (pe_lst pa_nil))
      (pss_cut (ps_if (pt_val (pe_callB call_isiT (by rfl) T.b_isinstance (by decide +kernel) (pa_cons (pe_ix ix_list (pv 3) pe_int (fun _ _ => rfl)) (pa_cons (pe_tup (pa_cons (pe_bltn (v := .ty "list") (by rfl) T.b_list (by decide +kernel) rfl) (pa_cons (pe_bltn (v := .ty "tuple") (by rfl) T.b_tuple (by decide +kernel) rfl) pa_nil))) pa_nil)))) (pss_cons (ps_set (i := 5) sc_kinds_asked.nd rfl (Or.inl rfl) (pe_callTy call_list_of (by rfl) T.b_list (by decide +kernel) (pa_cons (pe_ix ix_list (pv 3) pe_int (fun _ _ => rfl)) pa_nil)))
      (pss_one (ps_asg (pe_callTy call_list_of (by rfl) T.b_list (by decide +kernel) (pa_cons (pe_ix ix_list (pv 3) pe_int (fun _ _ => rfl)) pa_nil)) (pg_sub (pv 4) pe_int set_list)))) pss_nil)
      (pss_cons (ps_set (i := 6) sc_kinds_asked.nd rfl (Or.inl rfl) (pe_call G_take (hr.mono (by decide)) (by rfl) T.g_take T.F_take.kp T.B_take .nil pass0 (pa_cons (pv 0) (pa_cons pe_int pa_nil))))
      (pss_cut (ps_if (pt_cmpR op_ne (pv 6) pe_int (nomark _)) (pss_one (ps_asg (pe_ix ix_list (Way.pe_callG G_kind_parts hgd hr (by rfl) T.g_kind_parts T.F_kind_parts.kp T.B_kind_parts .nil pass0 (pa_cons (pv 0) (pa_cons (pv 1) (pa_cons (pv 2) pa_nil)))) (pv 6) (fun _ _ => rfl)) (pg_sub (pv 4) (pv 6) set_list))) (pss_one (ps_if (PW.pt (pw_and (pt_val (pe_call G_kind_right (hr.mono (by decide)) (by rfl) T.g_kind_right T.F_kind_right.kp T.B_kind_right .nil pass0 (pa_cons (pv 3) pa_nil))) (pw_and1 (pt_cmpR op_gt (pe_callB call_len_seq (by rfl) T.b_len (by decide +kernel) (pa_cons (pe_ix ix_list (pv 4) pe_int (fun _ _ => rfl)) pa_nil)) pe_int (nomark _))))) (pss_one (ps_expr (pe_bm0 PySem.F.plainAttrs_list PySem.F.slot_list_pop PySem.F.type_list_pop mt_pop (pe_ix ix_list (pv 4) pe_int (fun _ _ => rfl))))) pss_nil)))
      (pss_cons (ps_if (PW.pt (pw_or (pt_not (pt_val (pe_call G_kind_right (hr.mono (by decide)) (by rfl) T.g_kind_right T.F_kind_right.kp T.B_kind_right .nil pass0 (pa_cons (pv 3) pa_nil)))) (pw_or1 (pt_not (pt_val (pe_call G_kind_right (hr.mono (by decide)) (by rfl) T.g_kind_right T.F_kind_right.kp T.B_kind_right .nil pass0 (pa_cons (pv 4) pa_nil))))))) (pss_one (ps_ret (Way.pe_callG G_kind_told hgd (hr.mono (by decide)) (by rfl) T.g_kind_told T.F_kind_told.kp T.B_kind_told .nil pass0 (pa_cons (pv 3) (pa_cons (pv 5) pa_nil))))) pss_nil)
      (pss_cons (ps_set (i := 7) sc_kinds_asked.nd rfl (Or.inl rfl) (pe_and (Way.pe_callG G_same hgd (hr.mono (by decide)) (by rfl) T.g_same T.F_same.kp T.B_same .nil pass0 (pa_cons (pe_op op_cat (pe_lst (pa_cons (pe_ix ix_list (pv 3) pe_int (fun _ _ => rfl)) pa_nil)) (pe_slice sl_list (pv 3) (po_some pe_int) po_none)) (pa_cons (pe_op op_cat (pe_lst (pa_cons (pe_ix ix_list (pv 4) pe_int (fun _ _ => rfl)) pa_nil)) (pe_slice sl_list (pv 4) (po_some pe_int) po_none)) pa_nil))) (pe_one (pe_cmpR op_eq (pe_callB call_len_seq (by rfl) T.b_len (by decide +kernel) (pa_cons (pv 5) pa_nil)) (pe_callB call_len_seq (by rfl) T.b_len (by decide +kernel) (pa_cons (pe_ix ix_list (pv 4) pe_int (fun _ _ => rfl)) pa_nil)) (nomark _)))))
      (pss_cons (ps_set (i := 8) sc_kinds_asked.nd rfl (Or.inl rfl) (pe_call G_kind_made (hr.mono (by decide)) (by rfl) T.g_kind_made T.F_kind_made.kp T.B_kind_made .nil Way.passN (pa_cons (pv 3) pa_nil)))
      (pss_cons (ps_set (i := 9) sc_kinds_asked.nd rfl (Or.inl rfl) (pe_call G_kind_made (hr.mono (by decide)) (by rfl) T.g_kind_made T.F_kind_made.kp T.B_kind_made .nil Way.passN (pa_cons (pv 4) pa_nil)))
      (pss_cons (ps_if (pt_not (pt_val (Way.pe_callG G_kind_told hgd (hr.mono (by decide)) (by rfl) T.g_kind_told T.F_kind_told.kp T.B_kind_told .nil pass0 (pa_cons (pv 3) (pa_cons (pv 5) pa_nil))))) (pss_one (ps_ret pe_bl)) pss_nil)
      (pss_one (ps_ret (pe_and (pe_cmpR op_eq (pe_cmpR (kk_eqK T G_Kind_eq (hr.mono (by decide))) (pv 8) (pv 9) (nomark _)) (pv 7) (nomark _)) (pe_and (pe_cmpR op_ne (pe_cmpR (kk_neK T G_Kind_eq (hr.mono (by decide))) (pv 8) (pv 9) (nomark _)) (pv 7) (nomark _)) (pe_one (pe_cmpR (kk_neK T G_Kind_eq (hr.mono (by decide))) (pv 8) (pe_ix ix_list (pv 3) pe_int (fun _ _ => rfl)) (nomark _)))))))))))))))))), ?_⟩
    refine q_any ⟨_, rfl, _, rfl, _, rfl, p, c, ln, lp, k, names, pool, rfl, hP, by omega, hS, hn0, hp11, fun l H1 vs hl K1 P1 h1 hv nv => ?_⟩
    obtain ⟨v0, v1, v2, v3, v4, v5, v6, dn, fv, db, dz, dh, dk, dr, rfl, g1, fr⟩ := kv7_of h1 hv
    have nlp : l ≠ p := hP.ne hl
    obtain ⟨op, hop⟩ := hP.here
    obtain ⟨oc, hoc⟩ := hP.cells
    have n1l : Nq fv v1 l := fun es a _ q z => nv v1 rfl (by rw [q, z])
    have n1p : Nq fv v1 p := nq_fr fr hop
    have n1c : Nq fv v1 c := nq_fr fr hoc
    refine q_any ((el_listN (K := K) (ev_var rfl) (.inl (SqL.of h1)) : EvL _ _ H1 _) H1 (Ex.refl H1) _ fun la H2 hla X2 h2 => ?_)
    refine q_any ⟨Nat.zero_le _, fun lh0 hlh0 => ?_⟩
    have X3 : Ex H1 (upd H2 lh0 (.lst [])) := X2.trans (Ex.new hlh0)
    have h3 : (upd H2 lh0 (.lst [])) la = some (.lst [v0, v1, v2, v3, v4, v5, v6]) := (Ex.new hlh0) _ _ h2
    have h3' : (upd H2 lh0 (.lst [])) lh0 = some (.lst []) := upd_same
    have hlh1 : H1 lh0 = none := fresh_back X2 hlh0
    have nla0 : lh0 ≠ la := fun z => by rw [z, h2] at hlh0; cases hlh0
    have nla : l ≠ la := fun z => by rw [← z, h1] at hla; cases hla
    have nlap : la ≠ p := P1.ne hla
    have nlac : la ≠ c := P1.neC hla
    have hla0 : H la = none := Kp.free K1 nlap hla
    have n1la : Nq fv v1 la := nq_at g1.f hla
    revert X3 h3 h3'
    generalize upd H2 lh0 (.lst []) = H3
    intro X3 h3 h3'
    refine q_cut (M := fun σ' H' => ∃ lh xs w1 fw, σ' = [some (.ref p), some (.ref ln), some (.ref lp), some (.ref l), some (.ref la), some (.ref lh), none, none, none, none] ∧ Ex H1 H' ∧ Kv7 K T.C_Field H' la v0 w1 v2 v3 v4 v5 v6 dn fw db dz dh dk dr ∧ Two K T.C_Field H' lh xs xs v1 w1 fv fw ∧ H1 lh = none ∧ lh ≠ la ∧ ∀ es a, fw = .seq true es → w1 = .ref a → H1 a = none ∧ a ≠ la ∧ a ≠ lh) ?_ ?_
    · cases hfv : fv with
      | dat d =>
        subst hfv
        obtain ⟨pq, hs⟩ := g1.f
        refine s_when (b := false) (et_B (ev_is (ev_isSq (ev_ix 1 rfl (X3 _ _ h1) rfl) (pq.mono X3)) (by rw [hs]))) (fun q => nomatch q) (fun _ H4 X4 => ?_)
        have g4 := g1.mono (X3.trans X4)
        exact ⟨lh0, [], v1, .dat d, rfl, X3.trans X4, ⟨X4 _ _ h3, g4.n, g4.f, g4.b, g4.z, g4.h, g4.k, g4.r⟩, ⟨X4 _ _ h3', fun b es z => nomatch z⟩, hlh1, nla0, fun es a z => nomatch z⟩
      | seq b es =>
        subst hfv
        obtain ⟨a, xs, e1, hs, hp⟩ := g1.f
        subst e1
        have ety : ∃ t, (∀ H4, Ex H3 H4 → TyX K H4 (.ref a) t) ∧ PySem.W.kitAny K t [.type "list", .type "tuple"] = some true := by
          cases b with
          | true => exact ⟨_, fun H4 e => .base (.lst ((X3.trans e) _ _ hs)), kd_sq (d := .list [])⟩
          | false => exact ⟨_, fun H4 e => ty_sqT (ex_t (X3.trans e) hs), kd_sq (d := .tuple [])⟩
        obtain ⟨ty, t1, t2⟩ := ety
        refine s_when (b := true) (et_B (ev_isLT (ev_ix 1 rfl (X3 _ _ h1) rfl) t1 t2)) (fun _ H4 X4 => ?_) (fun q => nomatch q)
        have X14 := X3.trans X4
        refine q_any ((el_listN (K := K) (ev_ix 1 rfl (X14 _ _ h1) rfl) (hs.mono X14).sq : EvL _ _ H4 _) H4 (Ex.refl H4) _ fun lh H5 hlh X5 h5 => ?_)
        have X15 := X14.trans X5
        refine (el_listN (K := K) (ev_ix 1 rfl (X15 _ _ h1) rfl) (hs.mono X15).sq : EvL _ _ H5 _) H5 (Ex.refl H5) _ fun a' H6 ha' X6 h6 => ?_
        have hla6 := (X4.trans (X5.trans X6)) _ _ h3
        refine ⟨_, rfl, la, _, 1, 1, rfl, rfl, hla6, rfl, ?_⟩
        have X16 := X15.trans X6
        have X17 : Ex H1 (upd H6 la (.lst ([v0, V.ref a, v2, v3, v4, v5, v6].set 1 (.ref a')))) := Ex.mut X16 hla
        have nlh : lh ≠ la := fun z => by rw [z, X4 _ _ h3] at hlh; cases hlh
        have na' : a' ≠ la := fun z => by rw [z, (X4.trans X5) _ _ h3] at ha'; cases ha'
        have na'' : a' ≠ lh := fun z => by rw [z, h5] at ha'; cases ha'
        have g7 := g1.mono X17
        have hp7 : Paired (fun x e => ElAt K T.C_Field e x (upd H6 la (.lst ([v0, V.ref a, v2, v3, v4, v5, v6].set 1 (.ref a'))))) xs es := Paired.mapP hp fun _ _ q => elAt_mono _ _ _ _ X17 q
        have h67 : (upd H6 la (.lst ([v0, V.ref a, v2, v3, v4, v5, v6].set 1 (.ref a')))) a' = some (.lst xs) := (upd_ne na').trans h6
        exact ⟨lh, xs, .ref a', .seq true es, rfl, X17, ⟨upd_same, g7.n, ⟨a', xs, rfl, h67, hp7⟩, g7.b, g7.z, g7.h, g7.k, g7.r⟩, ⟨(upd_ne nlh).trans (X6 _ _ h5), fun b2 es2 z => by
          cases z
          exact ⟨a, a', es, rfl, hs.mono X17, hp7, rfl, h67, rfl, hp7, .inl rfl⟩⟩, fresh_back X14 hlh, nlh, fun es2 a2 z1 z2 => by
          cases z2
          exact ⟨fresh_back X15 ha', na', na''⟩⟩
    · rintro σ' H4 ⟨lh, xs, w1, fw, rfl, X4, q4, t4, hlh1, nlh, nw⟩
      have g4 := g1.mono X4
      have P4 := P1.mono X4
      have nlhl : lh ≠ l := fun z => by rw [z, h1] at hlh1; cases hlh1
      have nlhp : lh ≠ p := P1.ne hlh1
      have n1lh : Nq fv v1 lh := nq_at g1.f hlh1
      have nwp : Nq fw w1 p := fun es a e1 e2 => P1.ne (nw es a e1 e2).1
      have nwla : Nq fw w1 la := fun es a e1 e2 => (nw es a e1 e2).2.1
      refine q_any (takeN (n := 7) rfl ev_c P4 (by omega) (by decide) (by decide) fun H5 at' K5 P5 a0 a7 => ?_)
      obtain ⟨kv4, hkv4⟩ := P4.here
      have ki5 : KpI K H4 H5 := kpi_dK hkv4 K5
      have g5 := g4.kp (Pen.off P4) ki5 K5 nlp n1p
      have q5 := q4.kp (Pen.off P4) ki5 K5 nlap nwp
      have t5 := t4.kp (Pen.off P4) ki5 K5 nlhp n1p nwp
      have K05 : Kp p H H5 := Kp.trans K1 (Kp.trans (Kp.of X4) K5)
      refine q_cut (M := fun σ' H' => ∃ ys w0 w1 w2 w3 w4 w5 w6 en fw eb ez eh ek er, σ' = [some (.ref p), some (.ref ln), some (.ref lp), some (.ref l), some (.ref la), some (.ref lh), some (.int at'), none, none, none] ∧ Kv7 K T.C_Field H' l v0 v1 v2 v3 v4 v5 v6 dn fv db dz dh dk dr ∧ Kv7 K T.C_Field H' la w0 w1 w2 w3 w4 w5 w6 en fw eb ez eh ek er ∧ Two K T.C_Field H' lh xs ys v1 w1 fv fw ∧ Kp p H H' ∧ Pen H' p c (k + 327)) ?_ ?_
      · refine s_if (b := !decide (at' = 1)) (et_is (et_test (ev_op (ev_var rfl) ev_c (rv_ne rfl))) (by simp)) (fun q H6 X6 => ?_) (fun q H6 X6 => ?_)
        · have q' : at' ≠ 1 := by simpa using q
          have P6 := P5.mono X6
          have K06 : Kp p H H6 := Kp.trans K05 (Kp.of X6)
          refine ⟨_, rfl, _, rfl, _, rfl, p, c, ln, lp, k + 164, names, pool, rfl, P6, by omega, hS.kp K06, hn0, hp11, fun l2 H7 vs2 hl2 K7 P7 h7 hv7 _ => ⟨_, rfl, ?_⟩⟩
          have hat : at'.toNat < vs2.length := by rw [hv7.n]; omega
          refine ⟨l2, _, _, _, rfl, rfl, SqL.of h7, at_of (j := at'.toNat) (by omega) (List.getElem?_eq_getElem hat), ?_⟩
          obtain ⟨d, pm, _⟩ := hv7.o at'.toNat _ (List.getElem?_eq_getElem hat) (by omega)
          revert pm
          generalize vs2[at'.toNat] = y
          intro pm
          obtain ⟨kv6, hkv6⟩ := P6.here
          have ki7 : KpI K H6 H7 := kpi_dK hkv6 K7
          have g7 := (g5.mono X6).kp (Pen.off P6) ki7 K7 nlp n1p
          have q7 := (q5.mono X6).kp (Pen.off P6) ki7 K7 nlap nwp
          have t7 := (t5.mono X6).kp (Pen.off P6) ki7 K7 nlhp n1p nwp
          refine ⟨_, rfl, _, rfl, la, _, at', at'.toNat, rfl, rfl, q7.hl, by
            have := ixN_nat (n := 7) (j := at'.toNat) (by omega)
            rw [show ((at'.toNat : Nat) : Int) = at' by omega] at this
            exact this, ?_⟩
          have K8 : Kp la H7 (upd H7 la (.lst ([v0, w1, v2, v3, v4, v5, v6].set at'.toNat y))) := Kp.set (Kp.refl _ _)
          have off7 : Off H7 la := off_lst q7.hl (by show 3 < 7; decide)
          have ki8 : KpI K H7 (upd H7 la (.lst ([v0, w1, v2, v3, v4, v5, v6].set at'.toNat y))) := kpi_lst q7.hl K8
          obtain ⟨u0, u2, u3, u4, u5, u6, en, eb, ez, eh, ek, er, q8⟩ := kv7_set (C := T.C_Field) (l := la) (j := at'.toNat) (by omega) (by omega) (q7.n.kp off7 K8) (q7.f.kq off7 ki8 K8 nwla) (q7.b.kp off7 K8) (q7.z.kp off7 K8) (q7.h.kp off7 K8) (q7.k.kp off7 K8) (q7.r.kp off7 K8) (pm.p.kp off7 K8) upd_same
          exact ⟨xs, u0, w1, u2, u3, u4, u5, u6, en, fw, eb, ez, eh, ek, er, rfl, g7.kp off7 ki8 K8 nla n1la, q8, t7.kp off7 ki8 K8 nlh n1la nwla, Kp.new (Kp.trans K06 K7) hla0, P7.upd nlap nlac⟩
        · have P6 := P5.mono X6
          have K06 : Kp p H H6 := Kp.trans K05 (Kp.of X6)
          have g6 := g5.mono X6
          have q6 := q5.mono X6
          have t6 := t5.mono X6
          refine s_when (b := fKR dn fv db dz dh dk dr && decide ((0 : Int) < (xs.length : Int))) (et_and (et_B (ev_kr rfl g6)) fun hr' => ?_) (fun q H7 X7 => ?_) (fun q H7 X7 => ?_)
          · obtain ⟨kd, hkd⟩ := right_kd hr'
            obtain ⟨b, ef⟩ := hkd.f
            obtain ⟨a, a', es', e1, _, _, e4, h5, _⟩ := t6.s b _ ef
            subst e4
            exact et_test (ev_op (ev_cb (ea_cons (ev_ix 1 rfl q6.hl rfl) ea_nil) fun H7 X7 _ q => ⟨a', xs, rfl, .inl (SqL.of (X7 _ _ h5)), q H7 (Ex.refl H7)⟩) ev_c rv_I0)
          · have q' := Bool.and_eq_true_iff.mp q
            have lx : 0 < xs.length := by have := of_decide_eq_true q'.2; omega
            obtain ⟨kd, hkd⟩ := right_kd q'.1
            obtain ⟨b, ef⟩ := hkd.f
            have g7 := g6.mono X7
            have q7 := q6.mono X7
            have t7 := t6.mono X7
            obtain ⟨a, a', es', e1, h2', h3', e4, h5, h6, h7, h8⟩ := t7.s b _ ef
            have naa := nw es' a' h6 e4
            subst e1 e4
            refine (ev_ix 1 rfl q7.hl rfl : Ev _ _ H7 _) H7 (Ex.refl H7) _ fun H8 X8 => ⟨Or.inl ⟨rfl, xs, sq_of (X8 _ _ h5)⟩, a', xs, _, rfl, rfl, X8 _ _ h5, List.getElem?_eq_getElem (by omega), ?_⟩
            have h58 := X8 _ _ h5
            have K9 : Kp a' H8 (upd H8 a' (.lst xs.dropLast)) := Kp.set (Kp.refl _ _)
            have ki9 : KpI K H8 (upd H8 a' (.lst xs.dropLast)) := kpi_lst h58 K9
            have g8 := g7.mono X8
            have q8 := q7.mono X8
            have t8 := t7.mono X8
            have hp9 := el_keep ki9 (Paired.mapP h3' fun _ _ q => elAt_mono _ _ _ _ X8 q)
            have naA : ∀ o, H1 o = none → o ≠ a' → True := fun _ _ _ => trivial
            have hsq9 : SqB K (upd H8 a' (.lst xs.dropLast)) b a xs := by
              cases b with
              | true =>
                have z : a ≠ a' := nq_at g1.f naa.1 _ a ef rfl
                exact (upd_ne z).trans (X8 _ _ h2')
              | false => exact ki9.t _ _ (ex_t X8 h2')
            have nl9 : l ≠ a' := fun z => by rw [← z, h1] at naa; cases naa.1
            have fr9 : H a' = none := Kp.free K1 (P1.ne naa.1) naa.1
            have hfv9 : FvAt K T.C_Field fv (.ref a) (upd H8 a' (.lst xs.dropLast)) := by
              rw [ef]
              exact ⟨a, xs, rfl, hsq9, hp9⟩
            have hfw9 : FvAt K T.C_Field (.seq true (kd.fields.map El.fld).dropLast) (.ref a') (upd H8 a' (.lst xs.dropLast)) := ⟨a', _, rfl, upd_same, pr_drop hp9⟩
            exact ⟨xs.dropLast, v0, .ref a', v2, v3, v4, v5, v6, dn, .seq true (kd.fields.map El.fld).dropLast, db, dz, dh, dk, dr, rfl, g8.sc hkd ((upd_ne nl9).trans g8.hl) hfv9, g8.sc hkd ((upd_ne naa.2.1.symm).trans q8.hl) hfw9, ⟨(upd_ne naa.2.2.symm).trans t8.h, fun b2 es2 z => by
              rw [ef] at z
              cases z
              exact ⟨a, a', _, rfl, hsq9, hp9, rfl, upd_same, rfl, pr_drop hp9, .inr rfl⟩⟩, Kp.new (Kp.trans K06 (Kp.of (X7.trans X8))) fr9, ((P6.mono (X7.trans X8)).upd (P1.ne naa.1) (P1.neC naa.1)).le (by omega)⟩
          · exact ⟨xs, v0, w1, v2, v3, v4, v5, v6, dn, fw, db, dz, dh, dk, dr, rfl, g6.mono X7, q6.mono X7, t6.mono X7, Kp.trans K06 (Kp.of X7), (P6.mono X7).le (by omega)⟩
      · rintro σ' H6 ⟨ys, w0, w1, w2, w3, w4, w5, w6, en, fw, eb, ez, eh, ek, er, rfl, g6, q6, t6, K6, P6⟩
        have hsq : ∀ {Hx : Hp}, Two K T.C_Field Hx lh xs ys v1 w1 fv fw → ∀ b es, fv = .seq b es → ∃ a, v1 = .ref a ∧ SqB K Hx b a xs ∧ Paired (fun x e => ElAt K T.C_Field e x Hx) xs es := fun t b es e => let ⟨a, _, _, h1, h2, h3, _⟩ := t.s b es e; ⟨a, h1, h2, h3⟩
        refine q_when (b := !fKR dn fv db dz dh dk dr || !fKR en fw eb ez eh ek er) (et_or (et_not (et_B (ev_kr rfl g6))) fun _ => et_not (et_B (ev_kr rfl q6))) (fun q H7 X7 => ?_) (fun q H7 X7 => ?_)
        · have t7 := t6.mono X7
          exact ⟨_, rfl, _, rfl, l, lh, xs, v0, v1, v2, v3, v4, v5, v6, dn, fv, db, dz, dh, dk, dr, rfl, g6.mono X7, t7.h, n1l, n1lh, hsq t7, fun H8 kt ki => kont H8 (kp_kt (Kp.trans K6 (Kp.of X7)) kt fr) (K01.Pen.kt (P6.mono X7) kt n1p n1c)⟩
        · have q' : fKR dn fv db dz dh dk dr = true ∧ fKR en fw eb ez eh ek er = true := by
            simp only [Bool.or_eq_false_iff, Bool.not_eq_false'] at q
            exact q
          obtain ⟨kd, hkd⟩ := right_kd q'.1
          obtain ⟨ke, hke⟩ := right_kd q'.2
          obtain ⟨b, ef⟩ := hkd.f
          obtain ⟨b2, ef2⟩ := hke.f
          have g7 := g6.mono X7
          have q7 := q6.mono X7
          have t7 := t6.mono X7
          have plk := kd_pl g7 hkd
          have ple := kd_pl q7 hke
          have vk := kd_vals g7 hkd
          have ve := kd_vals q7 hke
          obtain ⟨a, a', es', e1, h2', h3', e4, h5, h6, h7, h8⟩ := t7.s b _ ef
          have lx : xs.length = kd.fields.length := by rw [Paired.length h3', List.length_map]
          have ees : es' = ke.fields.map .fld := by rw [ef2] at h6; exact (Fv.seq.inj h6).2.symm
          have ly : ys.length = ke.fields.length := by rw [Paired.length h7, ees, List.length_map]
          have hlike : ke.fields = kd.fields ∨ ke.fields = kd.fields.dropLast := by
            have inj := fun {x y : List Fd} => (List.map_inj_right (f := El.fld) (l := x) (l' := y) (fun x y z => El.fld.inj z)).mp
            rw [ees] at h8
            rcases h8 with h | h
            · exact .inl (inj h)
            · rw [← List.map_dropLast] at h
              exact .inr (inj h)
          refine q_asg (v := .bl (decide (kd = ke))) (ev_is (ev_andV (ev_sameLL (K := K) (d := kdD kd) (e := kdD ke) (el_catL (el_lst (ea_cons (ev_ix 0 rfl g7.hl rfl) ea_nil) (Nat.le_of_ble_eq_true rfl)) (el_sl (K := K) (ev_var rfl) (eo_some ev_c) eo_none (sq_of g7.hl)) (Nat.le_of_ble_eq_true rfl)) (el_catL (el_lst (ea_cons (ev_ix 0 rfl q7.hl rfl) ea_nil) (Nat.le_of_ble_eq_true rfl)) (el_sl (K := K) (ev_var rfl) (eo_some ev_c) eo_none (sq_of q7.hl)) (Nat.le_of_ble_eq_true rfl)) (fun H8 p X8 h8 => kd_shn (h8.trans (congrArg (fun z => some (HO.lst z)) vk)) plk) (fun H8 p X8 h8 => kd_shn (h8.trans (congrArg (fun z => some (HO.lst z)) ve)) ple) (kd_fit plk).1 (kd_fit ple).1) fun _ => ev_op (ev_cb (ea_cons (ev_var rfl) ea_nil) fun H8 X8 _ q => ⟨lh, xs, rfl, .inl (SqL.of (X8 _ _ t7.h)), q H8 (Ex.refl H8)⟩) (ev_cb (ea_cons (ev_ix 1 rfl q7.hl rfl) ea_nil) fun H8 X8 _ q => ⟨a', ys, by rw [e4], .inl (SqL.of (X8 _ _ h5)), q H8 (Ex.refl H8)⟩) (rv_eq rfl)) (by
            rw [kd_alike plk ple hlike, lx, ly]
            simp)) fun H8 X8 => ?_
          have X78 := X7.trans X8
          refine q_any ⟨_, rfl, l, v0, v1, v2, v3, v4, v5, v6, dn, fv, db, dz, dh, dk, dr, rfl, g6.mono X78, fun _ kd2 x H9 hk2 X9 hK => ?_, fun z => by rw [q'.1] at z; cases z⟩
          obtain rfl := kdd_inj hkd hk2
          have X79 := X78.trans X9
          refine q_any ⟨_, rfl, la, w0, w1, w2, w3, w4, w5, w6, en, fw, eb, ez, eh, ek, er, rfl, q6.mono X79, fun _ ke2 z H10 hk3 X10 hKe => ?_, fun z => by rw [q'.2] at z; cases z⟩
          obtain rfl := kdd_inj hke hk3
          have X710 := X79.trans X10
          have t10 := t6.mono X710
          have g10 := g6.mono X710
          refine ⟨_, rfl, _, rfl, l, lh, xs, v0, v1, v2, v3, v4, v5, v6, dn, fv, db, dz, dh, dk, dr, rfl, g10, t10.h, n1l, n1lh, hsq t10, fun H11 kt ki => ⟨true, rfl, ?_⟩⟩
          have hl11 := kt.keep n1l g10.hl
          have hK11 := (hK.mono X10).keep ki
          have hKe11 := hKe.keep ki
          have hv0 : PV K H11 v0 dn := by
            have hn := hkd.n
            subst hn
            exact pv_sc plk.n g10.n
          refine s_ret (ev_is (ev_andV (ev_op (ev_op (ev_var rfl) (ev_var rfl) (rvb_eqK T hK11 hKe11 hlike)) (ev_var rfl) (rv_eq rfl)) fun _ => ev_andV (ev_op (ev_op (ev_var rfl) (ev_var rfl) (rvb_neK T hK11 hKe11 hlike)) (ev_var rfl) (rv_ne rfl)) fun _ => ev_op (ev_var rfl) (ev_ix 0 rfl hl11 rfl) (rvb_neKd T hK11 hv0)) ?_) fun H12 X12 => kont H12 (Kp.trans (kp_kt (Kp.trans K6 (Kp.of X710)) kt fr) (Kp.of X12)) (Pen.mono (K01.Pen.kt (P6.mono X710) kt n1p n1c) X12)
          by_cases e : kd = ke
          · subst e; simp
          · simp [e]
end
end K01

namespace K01
open PySem L2 Way Evl
def spLaw (K : PySem.W.Frag) : Sp := fun vs H Q _ => ∃ (a : Addr) (ns : List Int), vs = [.ref a] ∧ SqL K H a (ns.map V.int) ∧ ns.length ≤ 63 ∧ ∀ H', Q (.bl true) H'
theorem s_mkD {H : Hp} {σ : L2.St} {C : Addr} {sp : Sp} {dvs : List V} {v0 : V} {ta : TE} {tb : TE} {D : Ends} {j : Nat} {E : XK} (h1 : Ev ta σ H v0) (h2 : EvL tb σ H []) (k : ∀ H2 le, Ex H H2 → H2 le = some (.lst []) → ∀ x dx, H2 x = none → H2 dx = none → dx ≠ x → sp ([.ref x, v0, .ref le] ++ dvs) (upd (upd H2 dx (.own x)) x (.ins C dx [])) (fun v H3 => v = .non ∧ D.nx (σ.set j (some (.ref x))) H3) E) :
    tAsg (tMake C sp dvs E (tCons ta (tCons tb tNil))) (gName j) D σ H := h1 H (Ex.refl H) _ fun H1 X1 => h2 H1 X1 _ fun le H2 _ X2 hle x dx hx hd hn => k H2 le (X1.trans X2) hle x dx hx hd hn
def plD : PyData := .list [.none, .bool false, .bool false, .none, .bool false]
theorem pl_fit : Fit plD ∧ plD.hasDict = false := ⟨⟨by decide +kernel, by decide +kernel, by decide +kernel⟩, by decide +kernel⟩
theorem pl_shn {K : PySem.W.Frag} {H : Hp} {p : Addr} (h : H p = some (.lst [.non, .bl false, .bl false, .non, .bl false])) : Shn K H (.ref p) plD := .dp (.lst (SqL.of h) (.cons .non (.cons (.bl _) (.cons (.bl _) (.cons .non (.cons (.bl _) .nil)))))) pl_fit.2
theorem plain_right {n : Str} (h : knS n = true) : fKR (.str n) (.seq true []) .none (.bool false) (.bool false) .none (.bool false) = true := by
  have e : fKN (.str n) = true := h
  simp only [fKR, kc1, e, fAF]
  rfl
section
variable {P : Program} {w : World} {K : PySem.W.Frag} {mg : Str → Option Value} {base : Heap}
theorem ok_law (T : Txt P K mg) : FnG P w K mg base CX0 11 T.f_law T.d_law P_law (spLaw K) := by
  have G_pen := ok_pen (P := P) (w := w) (base := base) T
  have G_kind_names := ok_kind_names (P := P) (w := w) (base := base) T
  have G_words := ok_words (P := P) (w := w) (base := base) T
  have G_same := ok_same (P := P) (w := w) (base := base) T
  have G_fields_asked := ok_fields_asked (P := P) (w := w) (base := base) T
  have G_kinds_asked := ok_kinds_asked (P := P) (w := w) (base := base) T
  have G_Kind_init := ok_Kind_init (P := P) (w := w) (base := base) T
  obtain ⟨dsK, bd_Kind_init⟩ := bdK T
  refine okG T.F_law sc_law (fun vs H Q E h => ?_) (fun cdv A outer s H vs Q E hgd hr h => ?_)
  · obtain ⟨a, ns, rfl, _⟩ := h
    rfl
  · obtain ⟨a, ns, rfl, hS, hlen, kont⟩ := h
    refine ⟨_, (pss_cons (ps_set (i := 1) sc_law.nd rfl (Or.inl rfl) (pe_call G_pen (hr.mono (by decide)) (by rfl) T.g_pen T.F_pen.kp T.B_pen .nil pass0 (pa_cons (pv 0) pa_nil)))
      (pss_cons (ps_set (i := 2) sc_law.nd rfl (Or.inl rfl) (pe_call G_kind_names (hr.mono (by decide)) (by rfl) T.g_kind_names T.F_kind_names.kp T.B_kind_names .nil pass0 (pa_cons (pv 1) (pa_cons pe_int pa_nil))))
      (pss_cons (ps_set (i := 3) sc_law.nd rfl (Or.inl rfl) (pe_call G_words (hr.mono (by decide)) (by rfl) T.g_words T.F_words.kp T.B_words .nil pass0 (pa_cons (pv 1) (pa_cons pe_int (pa_cons pe_int pa_nil)))))
      (pss_cons (ps_for PassesOwn.never rfl (pi_range1 (by rfl) T.b_range (pa_cons pe_int pa_nil)) (pg_name (i := 4) sc_law.nd rfl (Or.inl rfl)) (pss_one (ps_if (PW.pt (pw_or (pt_not (pt_val (Way.pe_callG G_fields_asked hgd (hr.mono (by decide)) (by rfl) T.g_fields_asked T.F_fields_asked.kp T.B_fields_asked .nil pass0 (pa_cons (pv 1) (pa_cons (pv 2) (pa_cons (pv 3) pa_nil)))))) (pw_or1 (pt_not (pt_val (Way.pe_callG G_kinds_asked hgd hr (by rfl) T.g_kinds_asked T.F_kinds_asked.kp T.B_kinds_asked .nil pass0 (pa_cons (pv 1) (pa_cons (pv 2) (pa_cons (pv 3) pa_nil))))))))) (pss_one (ps_ret pe_bl)) pss_nil)))
      (pss_cons (ps_set (i := 5) sc_law.nd rfl (Or.inl rfl) (pe_make T.M_Kind G_Kind_init (hr.mono (by decide)) (by rfl) T.g_Kind bd_Kind_init.2 bd_Kind_init.1 Way.passN (pa_cons (pe_ix ix_list (pv 2) pe_int (fun _ _ => rfl)) (pa_cons (pe_lst pa_nil) pa_nil))))
      (pss_one (ps_ret (Way.pe_callG G_same hgd (hr.mono (by decide)) (by rfl) T.g_same T.F_same.kp T.B_same .nil pass0 (pa_cons (pe_lst (pa_cons (pe_fld (pv 5) rfl) (pa_cons (pe_fld (pv 5) rfl) (pa_cons (pe_fld (pv 5) rfl) (pa_cons (pe_fld (pv 5) rfl) (pa_cons (pe_fld (pv 5) rfl) pa_nil)))))) (pa_cons (pe_lst (pa_cons pe_non (pa_cons pe_bl (pa_cons pe_bl (pa_cons pe_non (pa_cons pe_bl pa_nil)))))) pa_nil)))))))))), ?_⟩
    refine q_any ⟨_, rfl, a, ns, rfl, hS, hlen, fun H1 p c X1 hp0 hc0 P1 => ?_⟩
    refine q_any ⟨_, rfl, p, c, 0, 3, rfl, P1, by decide, by decide, fun ln H2 names hln K2 P2 h2 hn hkn => ?_⟩
    refine q_any ⟨_, rfl, p, c, _, 12, rfl, P2, by decide, by decide, fun lp H3 pool hlp K3 P3 h3 hp hfn => ?_⟩
    have nlp : ln ≠ p := P1.ne hln
    have npp : lp ≠ p := P2.ne hlp
    have S3 : Src H3 p ln lp names pool := ⟨K3 _ _ nlp h2, nlp, by omega, hkn, h3, npp, by omega, hfn⟩
    refine q_forR1 (n := 4) (ea_cons ev_c ea_nil) (by decide) (fun i σ H' => ∃ v4, σ = [some (.ref a), some (.ref p), some (.ref ln), some (.ref lp), v4, none] ∧ Src H' p ln lp names pool ∧ Pen H' p c (141 + 354 * i)) (fun H4 X4 => ⟨none, rfl, S3.kp (Kp.of X4), P3.mono X4⟩) ?_ ?_
    · rintro i σ' H4 hi ⟨v4, rfl, S4, P4⟩
      have hi' : i < 4 := by omega
      refine ⟨_, rfl, _, rfl, _, rfl, p, c, ln, lp, _, names, pool, rfl, P4, by omega, S4, fun H5 K5 P5 => ⟨true, rfl, ?_⟩⟩
      refine ⟨_, rfl, _, rfl, _, rfl, p, c, ln, lp, _, names, pool, rfl, P5, by omega, S4.kp K5, by omega, by omega, fun H6 K6 P6 => ⟨true, rfl, ?_⟩⟩
      exact ⟨_, rfl, (S4.kp K5).kp K6, P6.le (by omega)⟩
    · rintro σ' H4 ⟨v4, rfl, S4, P4⟩
      obtain ⟨n0, hn0⟩ : ∃ n0, names[0]? = some n0 := ⟨names[0], List.getElem?_eq_getElem (by omega)⟩
      have hk0 := hkn n0 (List.mem_of_getElem? hn0)
      refine s_mkD (v0 := .str n0) (ev_ix 0 rfl S4.hn (by rw [List.getElem?_map, hn0]; rfl)) (el_lst ea_nil (Nat.zero_le _)) fun H5 le X5 hle x dx hx hd hn => ?_
      have X : Ex H5 (upd (upd H5 dx (.own x)) x (.ins T.C_Kind dx [])) := fun b o e => by
        rw [upd_ne (ne_of_none e hx), upd_ne (ne_of_none e hd)]; exact e
      refine ⟨x, dx, .str n0, .ref le, .non, .bl false, .bl false, .non, .bl false, .str n0, .seq true [], .none, .bool false, .bool false, .none, .bool false, rfl, upd_same, .dp (.str _) (knS_pl hk0), ⟨le, [], rfl, X _ _ hle, .nil⟩, .dp .non rfl, .dp (.bl _) rfl, .dp (.bl _) rfl, .dp .non rfl, .dp (.bl _) rfl, fun kd hk hr' H6 k6 hK => ⟨rfl, ?_⟩, fun z => by rw [plain_right hk0] at z; cases z⟩
      obtain ⟨z1, z2, z3, z4, z5, z6, z7⟩ := hk
      have eb : kd.base = none := by cases h : kd.base <;> rw [h] at z3 <;> cases z3
      have ek : kd.key = none := by cases h : kd.key <;> rw [h] at z6 <;> cases z6
      have ez : kd.frozen = false := (PyData.bool.inj z4).symm
      have eh : kd.heirs = false := (PyData.bool.inj z5).symm
      have er : kd.registered = false := (PyData.bool.inj z7).symm
      obtain ⟨x', dx', fs, ft, ys, e1, h1, h2', h3', h4, h5, h6, h7, h8, h9, h10⟩ := hK
      cases e1
      rw [eb] at h4
      rw [ez] at h5
      rw [eh] at h6
      rw [ek] at h7
      rw [er] at h8
      refine s_ret (ev_is (ev_sameLL (K := K) (d := plD) (e := plD) (el_lst (ea_cons (ev_fld (ev_var rfl) h1 T.cl_Kind T.na_Kind_base h4) (ea_cons (ev_fld (ev_var rfl) h1 T.cl_Kind T.na_Kind_frozen h5) (ea_cons (ev_fld (ev_var rfl) h1 T.cl_Kind T.na_Kind_heirs h6) (ea_cons (ev_fld (ev_var rfl) h1 T.cl_Kind T.na_Kind_key h7) (ea_cons (ev_fld (ev_var rfl) h1 T.cl_Kind T.na_Kind_registered h8) ea_nil))))) (Nat.le_of_ble_eq_true rfl)) (el_lst (ea_cons ev_c (ea_cons ev_c (ea_cons ev_c (ea_cons ev_c (ea_cons ev_c ea_nil))))) (Nat.le_of_ble_eq_true rfl)) (fun H8 p X8 h8 => pl_shn h8) (fun H8 p X8 h8 => pl_shn h8) pl_fit.1 pl_fit.1) (by simp)) fun H7 _ => kont H7
end
end K01

namespace K01
open PySem L2
theorem all_mk {l : PySem.W.OpenLaw} {w : World} {K : PySem.W.Frag} {h : Heap} {mg : Str → Option Value} {fa f0 f1 f2 f3 f4 f5 f6 f7 f8 f9 f10 f11 f12 f13 f14 f15 f16 f17 f18 f19 f20 f21 f22 f23 f24 f25 f26 f27 f28 f29 f30 f31 f32 f33 f34 f35 f36 f37 f38 f39 f40 f41 cda0 cc0 cda1 cc1 D9 TE9 D13 C0 N0 C1 N1 C2 N2 C3 C4 C5 MW4 : Addr} (X : K.In h) (G : h.Ns mainGlobals mg) (hfa : mg "law" = some (.ref fa))
    {od0 an0 od1 an1 od2 an2 od3 an3 od4 an4 od5 an5 od6 an6 od7 an7 od8 an8 od9 an9 od10 an10 od11 an11 od12 an12 od13 an13 od14 an14 od15 an15 od16 an16 od17 an17 od18 an18 od19 an19 od20 an20 od21 an21 od22 an22 od23 an23 od24 an24 od25 an25 od26 an26 od27 an27 od28 an28 od29 an29 od30 an30 od31 an31 od32 an32 od33 an33 od34 an34 od35 an35 od36 an36 od37 an37 od38 an38 od39 an39 od40 an40 od41 an41 cdd0 cld0 cdd1 cld1 : Option Addr} {sl0 sl1 sl2 sl3 sl4 sl5 sl6 sl7 sl8 sl9 sl10 sl11 sl12 sl13 sl14 sl15 sl16 sl17 sl18 sl19 sl20 sl21 sl22 sl23 sl24 sl25 sl26 sl27 sl28 sl29 sl30 sl31 sl32 sl33 sl34 sl35 sl36 sl37 sl38 sl39 sl40 sl41 ccs0 csl0 ccs1 csl1 : Array (Option Value)} {oc0 kV0 dc0 pm0 ct0 ccl0 cl0 oc1 kV1 dc1 pm1 ct1 ccl1 cl1 oc2 kV2 dc2 pm2 cd2 ct2 oc3 kV3 dc3 pm3 cd3 ct3 oc4 kV4 dc4 pm4 cd4 ct4 oc5 kV5 dc5 pm5 cd5 ct5 oc6 kV6 dc6 pm6 cd6 ct6 oc7 kV7 dc7 pm7 cd7 ct7 oc8 kV8 dc8 pm8 cd8 ct8 oc9 dc9 pm9 cd9 ct9 oc10 kV10 dc10 pm10 cd10 ct10 oc11 kV11 dc11 pm11 cd11 ct11 oc12 kV12 dc12 pm12 cd12 ct12 oc13 dc13 pm13 cd13 ct13 oc14 kV14 dc14 pm14 cd14 ct14 oc15 kV15 dc15 pm15 cd15 ct15 oc16 kV16 dc16 pm16 cd16 ct16 oc17 kV17 dc17 pm17 cd17 ct17 oc18 kV18 dc18 pm18 cd18 ct18 oc19 kV19 dc19 pm19 cd19 ct19 oc20 kV20 dc20 pm20 cd20 ct20 oc21 kV21 dc21 pm21 cd21 ct21 oc22 kV22 dc22 pm22 cd22 ct22 oc23 kV23 dc23 pm23 cd23 ct23 oc24 kV24 dc24 pm24 cd24 ct24 oc25 kV25 dc25 pm25 cd25 ct25 oc26 kV26 dc26 pm26 cd26 ct26 oc27 kV27 dc27 pm27 cd27 ct27 oc28 kV28 dc28 pm28 cd28 ct28 oc29 kV29 dc29 pm29 cd29 ct29 oc30 kV30 dc30 pm30 cd30 ct30 oc31 kV31 dc31 pm31 cd31 ct31 oc32 kV32 dc32 pm32 cd32 ct32 oc33 kV33 dc33 pm33 cd33 ct33 oc34 kV34 dc34 pm34 cd34 ct34 oc35 kV35 dc35 pm35 cd35 ct35 oc36 kV36 dc36 pm36 cd36 ct36 oc37 kV37 dc37 pm37 cd37 ct37 oc38 kV38 dc38 pm38 cd38 ct38 oc39 kV39 dc39 pm39 cd39 ct39 oc40 kV40 dc40 pm40 cd40 ct40 oc41 kV41 dc41 pm41 cd41 ct41 : Value}
    {vs0 vs1 : Array Value} {fl0 fl1 : Str} {tf0 tf1 : Tok}
    {wk9_1 : Tok}
    {teo9 : Option Addr} {ten9 : Nat} {tes9 : Array (Option Value)}
    {q0 : Str} {bs0 sub0 : List Value} {sn0 : List Str} {ab0 : Bool} {col0 : Option Bool} {dd0 : Option Addr} {m00 m10 m20 m30 m50 : Option Value}
    {q1 : Str} {bs1 sub1 : List Value} {sn1 : List Str} {ab1 : Bool} {col1 : Option Bool} {dd1 : Option Addr} {m01 m11 m21 m31 m51 : Option Value}
    {q2 : Str} {bs2 sub2 : List Value} {sn2 : List Str} {ab2 : Bool} {col2 : Option Bool} {dd2 : Option Addr} {m02 m12 m22 m32 m52 : Option Value}
    {it5_0 : Tok}
    {it5_1 : Tok}
    {mt0 : Tok}
    {mt1 : Tok}
    {mt2 : Tok}
    {mt3 : Tok}
    {mwd4 : Option Addr} {mwn4 : Nat} {mws4 : Array (Option Value)} {mwt4_0 mwt4_1 mwt4_2 : Tok}
    {mt5 : Tok}
    (gc0 : PySem.W.nsIn K mainGlobals "WayError" = some (some (.ref C0)))
    (xl0 : K.lookup C0 = some (excClassObj "WayError" q0 C0 N0 bs0 [.type "ValueError", .type "Exception", .type "BaseException", .type "object"] true sn0 sub0 ab0 col0 dd0 m00 m10 m20 m30 m50 "ValueError.__new__"))
    (ini : PySem.W.nsIn K N0 "__init__" = some none)
    (xhn : PySem.W.specialIn K (.builtin "object.__class__") "__get__" = some (some (.builtin "getset_descriptor.__get__")))
    (xht : PySem.W.takesIn K (.builtin "object.__class__") = some true)
    (xop : PySem.W.nsIn K cStatics "thirdparty.any" = some none)
    (top : (l.prog.main.scope.names.lookup ("super" : Str)).isSome = false)
    (gc1 : PySem.W.nsIn K mainGlobals "BadField" = some (some (.ref C1)))
    (xl1 : K.lookup C1 = some (excClassObj "BadField" q1 C1 N1 bs1 [.ref C0, .type "ValueError", .type "Exception", .type "BaseException", .type "object"] true sn1 sub1 ab1 col1 dd1 m01 m11 m21 m31 m51 "ValueError.__new__"))
    (sa1 : PySem.W.findIn K (.ref C1) "__setattr__" = some (some (.builtin "object.__setattr__")))
    (ga1 : PySem.W.findIn K (.ref C1) "__getattribute__" = some (some (.builtin "BaseException.__getattribute__")))
    (gg1 : PySem.W.findIn K (.ref C1) "__getattr__" = some none)
    (ha1 : PySem.W.findIn K (.ref C1) "__class__" = some (some (.builtin "object.__class__")))
    (kc1 : PySem.W.keepIn K (.ref C1) = true)
    (na1_0 : PySem.W.findIn K (.ref C1) "name" = some none)
    (gc2 : PySem.W.nsIn K mainGlobals "BadKind" = some (some (.ref C2)))
    (xl2 : K.lookup C2 = some (excClassObj "BadKind" q2 C2 N2 bs2 [.ref C0, .type "ValueError", .type "Exception", .type "BaseException", .type "object"] true sn2 sub2 ab2 col2 dd2 m02 m12 m22 m32 m52 "ValueError.__new__"))
    (sa2 : PySem.W.findIn K (.ref C2) "__setattr__" = some (some (.builtin "object.__setattr__")))
    (ga2 : PySem.W.findIn K (.ref C2) "__getattribute__" = some (some (.builtin "BaseException.__getattribute__")))
    (gg2 : PySem.W.findIn K (.ref C2) "__getattr__" = some none)
    (ha2 : PySem.W.findIn K (.ref C2) "__class__" = some (some (.builtin "object.__class__")))
    (kc2 : PySem.W.keepIn K (.ref C2) = true)
    (na2_0 : PySem.W.findIn K (.ref C2) "name" = some none)
    (gc3 : PySem.W.nsIn K mainGlobals "Field" = some (some (.ref C3)))
    (pg3 : PySem.W.plainGet K C3 Str.empty = true)
    (hd3 : PySem.W.hasDictIn K C3 = true)
    (po3 : PySem.W.plainOver K C3 = true)
    (sa3 : PySem.W.findIn K (.ref C3) "__setattr__" = some (some (.builtin "object.__setattr__")))
    (mk3 : PySem.W.makesIn K C3 = true)
    (kc3 : PySem.W.keepIn K (.ref C3) = true)
    (na3_0 : PySem.W.findIn K (.ref C3) "name" = some none)
    (na3_1 : PySem.W.findIn K (.ref C3) "mode" = some none)
    (na3_2 : PySem.W.findIn K (.ref C3) "target" = some none)
    (na3_3 : PySem.W.findIn K (.ref C3) "default" = some none)
    (na3_4 : PySem.W.findIn K (.ref C3) "was" = some none)
    (xic_Field_0 : PySem.W.findIn K (.ref C3) "__class__" = some (some (.builtin "object.__class__")))
    (xic_Field_1 : PySem.W.specialIn K (.builtin "object.__class__") "__get__" = some (some (.builtin "getset_descriptor.__get__")))
    (xic_Field_2 : PySem.W.takesIn K (.builtin "object.__class__") = some true)
    (xic_Field_3 : PySem.W.mroIn K C3 (.type "object") = some true)
    (xic_Field_4 : PySem.W.findIn K (.ref C3) "__ne__" = some (some (.builtin "object.__ne__")))
    (xic_Field_5 : PySem.W.selfFirst K C3 = true)
    (xic_Field_6 : PySem.W.typeIn K (.ref C3) = some (.type "type"))
    (gc4 : PySem.W.nsIn K mainGlobals "Kind" = some (some (.ref C4)))
    (pg4 : PySem.W.plainGet K C4 Str.empty = true)
    (hd4 : PySem.W.hasDictIn K C4 = true)
    (po4 : PySem.W.plainOver K C4 = true)
    (sa4 : PySem.W.findIn K (.ref C4) "__setattr__" = some (some (.builtin "object.__setattr__")))
    (mk4 : PySem.W.makesIn K C4 = true)
    (kc4 : PySem.W.keepIn K (.ref C4) = true)
    (na4_0 : PySem.W.findIn K (.ref C4) "name" = some none)
    (na4_1 : PySem.W.findIn K (.ref C4) "fields" = some none)
    (na4_2 : PySem.W.findIn K (.ref C4) "base" = some none)
    (na4_3 : PySem.W.findIn K (.ref C4) "frozen" = some none)
    (na4_4 : PySem.W.findIn K (.ref C4) "heirs" = some none)
    (na4_5 : PySem.W.findIn K (.ref C4) "key" = some none)
    (na4_6 : PySem.W.findIn K (.ref C4) "registered" = some none)
    (xic_Kind_0 : PySem.W.findIn K (.ref C4) "__class__" = some (some (.builtin "object.__class__")))
    (xic_Kind_1 : PySem.W.specialIn K (.builtin "object.__class__") "__get__" = some (some (.builtin "getset_descriptor.__get__")))
    (xic_Kind_2 : PySem.W.takesIn K (.builtin "object.__class__") = some true)
    (xic_Kind_3 : PySem.W.mroIn K C4 (.type "object") = some true)
    (xic_Kind_4 : PySem.W.findIn K (.ref C4) "__ne__" = some (some (.builtin "object.__ne__")))
    (xic_Kind_5 : PySem.W.selfFirst K C4 = true)
    (xic_Kind_6 : PySem.W.typeIn K (.ref C4) = some (.type "type"))
    (gc5 : PySem.W.nsIn K mainGlobals "House" = some (some (.ref C5)))
    (pg5 : PySem.W.plainGet K C5 Str.empty = true)
    (hd5 : PySem.W.hasDictIn K C5 = true)
    (po5 : PySem.W.plainOver K C5 = true)
    (sa5 : PySem.W.findIn K (.ref C5) "__setattr__" = some (some (.builtin "object.__setattr__")))
    (rd5 : PySem.W.readsIn K C5 (.type "type") = true)
    (cg5 : PySem.W.specialIn K (.ref C5) "__getattribute__" = some (some (.builtin "type.__getattribute__")))
    (ic5_0 : PySem.W.findCls K (.ref C5) (.type "type") "KINDS" = some (.val (.int 12 it5_0)))
    (ic5_1 : PySem.W.findCls K (.ref C5) (.type "type") "FIELDS" = some (.val (.int 10 it5_1)))
    (a0 : PySem.W.findIn K (.ref C1) "__init__" = some (some (.ref f0)))
    (l0 : K.lookup f0 = some ⟨oc0, od0, .func (PySem.W.fnX "__init__" "BadField.__init__" (defArgs s_BadField_init) (defBody s_BadField_init) (defScope s_BadField_init) [("__class__", cc0)] .none kV0 dc0 pm0 an0 (.ref cda0) ct0), sl0⟩)
    (c0 : PySem.W.codeIn K (.ref cda0) "BadField.__init__" = true)
    (t0 : PySem.W.typeIn K (.ref f0) = some (.type "function"))
    (lc0 : K.lookup cda0 = some ⟨ccl0, cdd0, .fields vs0, ccs0⟩)
    (lv0 : vs0[2]? = some (.str fl0 tf0))
    (lf0 : ((l.prog.main.file : Str) == fl0) = true)
    (ll0 : K.lookup cc0 = some ⟨cl0, cld0, .cell (some (.ref C1)), csl0⟩)
    (a1 : PySem.W.findIn K (.ref C2) "__init__" = some (some (.ref f1)))
    (l1 : K.lookup f1 = some ⟨oc1, od1, .func (PySem.W.fnX "__init__" "BadKind.__init__" (defArgs s_BadKind_init) (defBody s_BadKind_init) (defScope s_BadKind_init) [("__class__", cc1)] .none kV1 dc1 pm1 an1 (.ref cda1) ct1), sl1⟩)
    (c1 : PySem.W.codeIn K (.ref cda1) "BadKind.__init__" = true)
    (t1 : PySem.W.typeIn K (.ref f1) = some (.type "function"))
    (lc1 : K.lookup cda1 = some ⟨ccl1, cdd1, .fields vs1, ccs1⟩)
    (lv1 : vs1[2]? = some (.str fl1 tf1))
    (lf1 : ((l.prog.main.file : Str) == fl1) = true)
    (ll1 : K.lookup cc1 = some ⟨cl1, cld1, .cell (some (.ref C2)), csl1⟩)
    (a2 : PySem.W.nsIn K mainGlobals "is_integer" = some (some (.ref f2))) (l2 : K.lookup f2 = some ⟨oc2, od2, .func (PySem.W.fnOf "is_integer" "is_integer" (defArgs s_is_integer) (defBody s_is_integer) (defScope s_is_integer) .none kV2 dc2 pm2 an2 cd2 ct2), sl2⟩) (c2 : PySem.W.codeIn K cd2 "is_integer" = true) (k2 : PySem.W.keepIn K (.ref f2) = true)
    (a3 : PySem.W.nsIn K mainGlobals "is_letters" = some (some (.ref f3))) (l3 : K.lookup f3 = some ⟨oc3, od3, .func (PySem.W.fnOf "is_letters" "is_letters" (defArgs s_is_letters) (defBody s_is_letters) (defScope s_is_letters) .none kV3 dc3 pm3 an3 cd3 ct3), sl3⟩) (c3 : PySem.W.codeIn K cd3 "is_letters" = true) (k3 : PySem.W.keepIn K (.ref f3) = true)
    (a4 : PySem.W.nsIn K mainGlobals "is_kind_name" = some (some (.ref f4))) (l4 : K.lookup f4 = some ⟨oc4, od4, .func (PySem.W.fnOf "is_kind_name" "is_kind_name" (defArgs s_is_kind_name) (defBody s_is_kind_name) (defScope s_is_kind_name) .none kV4 dc4 pm4 an4 cd4 ct4), sl4⟩) (c4 : PySem.W.codeIn K cd4 "is_kind_name" = true) (k4 : PySem.W.keepIn K (.ref f4) = true)
    (a5 : PySem.W.nsIn K mainGlobals "is_field_name" = some (some (.ref f5))) (l5 : K.lookup f5 = some ⟨oc5, od5, .func (PySem.W.fnOf "is_field_name" "is_field_name" (defArgs s_is_field_name) (defBody s_is_field_name) (defScope s_is_field_name) .none kV5 dc5 pm5 an5 cd5 ct5), sl5⟩) (c5 : PySem.W.codeIn K cd5 "is_field_name" = true) (k5 : PySem.W.keepIn K (.ref f5) = true)
    (a6 : PySem.W.nsIn K mainGlobals "is_target" = some (some (.ref f6))) (l6 : K.lookup f6 = some ⟨oc6, od6, .func (PySem.W.fnOf "is_target" "is_target" (defArgs s_is_target) (defBody s_is_target) (defScope s_is_target) .none kV6 dc6 pm6 an6 cd6 ct6), sl6⟩) (c6 : PySem.W.codeIn K cd6 "is_target" = true) (k6 : PySem.W.keepIn K (.ref f6) = true)
    (a7 : PySem.W.nsIn K mainGlobals "fits_mode" = some (some (.ref f7))) (l7 : K.lookup f7 = some ⟨oc7, od7, .func (PySem.W.fnOf "fits_mode" "fits_mode" (defArgs s_fits_mode) (defBody s_fits_mode) (defScope s_fits_mode) .none kV7 dc7 pm7 an7 cd7 ct7), sl7⟩) (c7 : PySem.W.codeIn K cd7 "fits_mode" = true) (k7 : PySem.W.keepIn K (.ref f7) = true)
    (a8 : PySem.W.nsIn K mainGlobals "are_elder_names" = some (some (.ref f8))) (l8 : K.lookup f8 = some ⟨oc8, od8, .func (PySem.W.fnOf "are_elder_names" "are_elder_names" (defArgs s_are_elder_names) (defBody s_are_elder_names) (defScope s_are_elder_names) .none kV8 dc8 pm8 an8 cd8 ct8), sl8⟩) (c8 : PySem.W.codeIn K cd8 "are_elder_names" = true) (k8 : PySem.W.keepIn K (.ref f8) = true)
    (a9 : PySem.W.findIn K (.ref C3) "__init__" = some (some (.ref f9))) (l9 : K.lookup f9 = some ⟨oc9, od9, .func (PySem.W.fnOf "__init__" "Field.__init__" (defArgs s_Field_init) (defBody s_Field_init) (defScope s_Field_init) .none (.ref D9) dc9 pm9 an9 cd9 ct9), sl9⟩) (c9 : PySem.W.codeIn K cd9 "Field.__init__" = true) (k9 : PySem.W.keepIn K (.ref f9) = true)
    (i9 : PySem.W.isFn K (.ref f9) = true)
    (w9_0 : PySem.W.nsIn K D9 "target" = some (some (.none)))
    (w9_1 : PySem.W.nsIn K D9 "default" = some (some (.int 0 wk9_1)))
    (w9_2 : PySem.W.nsIn K D9 "was" = some (some (.ref TE9)))
    (te9 : K.lookup TE9 = some ⟨.type "tuple", teo9, .seq #[] ten9, tes9⟩)
    (a10 : PySem.W.findIn K (.ref C3) "__eq__" = some (some (.ref f10))) (l10 : K.lookup f10 = some ⟨oc10, od10, .func (PySem.W.fnOf "__eq__" "Field.__eq__" (defArgs s_Field_eq) (defBody s_Field_eq) (defScope s_Field_eq) .none kV10 dc10 pm10 an10 cd10 ct10), sl10⟩) (c10 : PySem.W.codeIn K cd10 "Field.__eq__" = true) (k10 : PySem.W.keepIn K (.ref f10) = true)
    (i10 : PySem.W.isFn K (.ref f10) = true)
    (a11 : PySem.W.nsIn K mainGlobals "are_fields" = some (some (.ref f11))) (l11 : K.lookup f11 = some ⟨oc11, od11, .func (PySem.W.fnOf "are_fields" "are_fields" (defArgs s_are_fields) (defBody s_are_fields) (defScope s_are_fields) .none kV11 dc11 pm11 an11 cd11 ct11), sl11⟩) (c11 : PySem.W.codeIn K cd11 "are_fields" = true) (k11 : PySem.W.keepIn K (.ref f11) = true)
    (a12 : PySem.W.nsIn K mainGlobals "fits_flags" = some (some (.ref f12))) (l12 : K.lookup f12 = some ⟨oc12, od12, .func (PySem.W.fnOf "fits_flags" "fits_flags" (defArgs s_fits_flags) (defBody s_fits_flags) (defScope s_fits_flags) .none kV12 dc12 pm12 an12 cd12 ct12), sl12⟩) (c12 : PySem.W.codeIn K cd12 "fits_flags" = true) (k12 : PySem.W.keepIn K (.ref f12) = true)
    (a13 : PySem.W.findIn K (.ref C4) "__init__" = some (some (.ref f13))) (l13 : K.lookup f13 = some ⟨oc13, od13, .func (PySem.W.fnOf "__init__" "Kind.__init__" (defArgs s_Kind_init) (defBody s_Kind_init) (defScope s_Kind_init) .none (.ref D13) dc13 pm13 an13 cd13 ct13), sl13⟩) (c13 : PySem.W.codeIn K cd13 "Kind.__init__" = true) (k13 : PySem.W.keepIn K (.ref f13) = true)
    (i13 : PySem.W.isFn K (.ref f13) = true)
    (w13_0 : PySem.W.nsIn K D13 "base" = some (some (.none)))
    (w13_1 : PySem.W.nsIn K D13 "frozen" = some (some (.bool false)))
    (w13_2 : PySem.W.nsIn K D13 "heirs" = some (some (.bool false)))
    (w13_3 : PySem.W.nsIn K D13 "key" = some (some (.none)))
    (w13_4 : PySem.W.nsIn K D13 "registered" = some (some (.bool false)))
    (a14 : PySem.W.findIn K (.ref C4) "__eq__" = some (some (.ref f14))) (l14 : K.lookup f14 = some ⟨oc14, od14, .func (PySem.W.fnOf "__eq__" "Kind.__eq__" (defArgs s_Kind_eq) (defBody s_Kind_eq) (defScope s_Kind_eq) .none kV14 dc14 pm14 an14 cd14 ct14), sl14⟩) (c14 : PySem.W.codeIn K cd14 "Kind.__eq__" = true) (k14 : PySem.W.keepIn K (.ref f14) = true)
    (i14 : PySem.W.isFn K (.ref f14) = true)
    (a15 : PySem.W.nsIn K mainGlobals "_law_pen" = some (some (.ref f15))) (l15 : K.lookup f15 = some ⟨oc15, od15, .func (PySem.W.fnOf "_law_pen" "_law_pen" (defArgs s_pen) (defBody s_pen) (defScope s_pen) .none kV15 dc15 pm15 an15 cd15 ct15), sl15⟩) (c15 : PySem.W.codeIn K cd15 "_law_pen" = true) (k15 : PySem.W.keepIn K (.ref f15) = true)
    (a16 : PySem.W.nsIn K mainGlobals "_law_take" = some (some (.ref f16))) (l16 : K.lookup f16 = some ⟨oc16, od16, .func (PySem.W.fnOf "_law_take" "_law_take" (defArgs s_take) (defBody s_take) (defScope s_take) .none kV16 dc16 pm16 an16 cd16 ct16), sl16⟩) (c16 : PySem.W.codeIn K cd16 "_law_take" = true) (k16 : PySem.W.keepIn K (.ref f16) = true)
    (a17 : PySem.W.nsIn K mainGlobals "_law_one_of" = some (some (.ref f17))) (l17 : K.lookup f17 = some ⟨oc17, od17, .func (PySem.W.fnOf "_law_one_of" "_law_one_of" (defArgs s_one_of) (defBody s_one_of) (defScope s_one_of) .none kV17 dc17 pm17 an17 cd17 ct17), sl17⟩) (c17 : PySem.W.codeIn K cd17 "_law_one_of" = true) (k17 : PySem.W.keepIn K (.ref f17) = true)
    (a18 : PySem.W.nsIn K mainGlobals "_law_is_integer" = some (some (.ref f18))) (l18 : K.lookup f18 = some ⟨oc18, od18, .func (PySem.W.fnOf "_law_is_integer" "_law_is_integer" (defArgs s_l_is_integer) (defBody s_l_is_integer) (defScope s_l_is_integer) .none kV18 dc18 pm18 an18 cd18 ct18), sl18⟩) (c18 : PySem.W.codeIn K cd18 "_law_is_integer" = true) (k18 : PySem.W.keepIn K (.ref f18) = true)
    (a19 : PySem.W.nsIn K mainGlobals "_law_word" = some (some (.ref f19))) (l19 : K.lookup f19 = some ⟨oc19, od19, .func (PySem.W.fnOf "_law_word" "_law_word" (defArgs s_word) (defBody s_word) (defScope s_word) .none kV19 dc19 pm19 an19 cd19 ct19), sl19⟩) (c19 : PySem.W.codeIn K cd19 "_law_word" = true) (k19 : PySem.W.keepIn K (.ref f19) = true)
    (a20 : PySem.W.nsIn K mainGlobals "_law_words" = some (some (.ref f20))) (l20 : K.lookup f20 = some ⟨oc20, od20, .func (PySem.W.fnOf "_law_words" "_law_words" (defArgs s_words) (defBody s_words) (defScope s_words) .none kV20 dc20 pm20 an20 cd20 ct20), sl20⟩) (c20 : PySem.W.codeIn K cd20 "_law_words" = true) (k20 : PySem.W.keepIn K (.ref f20) = true)
    (a21 : PySem.W.nsIn K mainGlobals "_law_kind_names" = some (some (.ref f21))) (l21 : K.lookup f21 = some ⟨oc21, od21, .func (PySem.W.fnOf "_law_kind_names" "_law_kind_names" (defArgs s_kind_names) (defBody s_kind_names) (defScope s_kind_names) .none kV21 dc21 pm21 an21 cd21 ct21), sl21⟩) (c21 : PySem.W.codeIn K cd21 "_law_kind_names" = true) (k21 : PySem.W.keepIn K (.ref f21) = true)
    (a22 : PySem.W.nsIn K mainGlobals "_law_odd" = some (some (.ref f22))) (l22 : K.lookup f22 = some ⟨oc22, od22, .func (PySem.W.fnOf "_law_odd" "_law_odd" (defArgs s_odd) (defBody s_odd) (defScope s_odd) .none kV22 dc22 pm22 an22 cd22 ct22), sl22⟩) (c22 : PySem.W.codeIn K cd22 "_law_odd" = true) (k22 : PySem.W.keepIn K (.ref f22) = true)
    (a23 : PySem.W.nsIn K mainGlobals "_law_same" = some (some (.ref f23))) (l23 : K.lookup f23 = some ⟨oc23, od23, .func (PySem.W.fnOf "_law_same" "_law_same" (defArgs s_same) (defBody s_same) (defScope s_same) .none kV23 dc23 pm23 an23 cd23 ct23), sl23⟩) (c23 : PySem.W.codeIn K cd23 "_law_same" = true) (k23 : PySem.W.keepIn K (.ref f23) = true)
    (a24 : PySem.W.nsIn K mainGlobals "_law_letters" = some (some (.ref f24))) (l24 : K.lookup f24 = some ⟨oc24, od24, .func (PySem.W.fnOf "_law_letters" "_law_letters" (defArgs s_letters) (defBody s_letters) (defScope s_letters) .none kV24 dc24 pm24 an24 cd24 ct24), sl24⟩) (c24 : PySem.W.codeIn K cd24 "_law_letters" = true) (k24 : PySem.W.keepIn K (.ref f24) = true)
    (a25 : PySem.W.nsIn K mainGlobals "_law_is_field_name" = some (some (.ref f25))) (l25 : K.lookup f25 = some ⟨oc25, od25, .func (PySem.W.fnOf "_law_is_field_name" "_law_is_field_name" (defArgs s_l_is_field_name) (defBody s_l_is_field_name) (defScope s_l_is_field_name) .none kV25 dc25 pm25 an25 cd25 ct25), sl25⟩) (c25 : PySem.W.codeIn K cd25 "_law_is_field_name" = true) (k25 : PySem.W.keepIn K (.ref f25) = true)
    (a26 : PySem.W.nsIn K mainGlobals "_law_is_kind_name" = some (some (.ref f26))) (l26 : K.lookup f26 = some ⟨oc26, od26, .func (PySem.W.fnOf "_law_is_kind_name" "_law_is_kind_name" (defArgs s_l_is_kind_name) (defBody s_l_is_kind_name) (defScope s_l_is_kind_name) .none kV26 dc26 pm26 an26 cd26 ct26), sl26⟩) (c26 : PySem.W.codeIn K cd26 "_law_is_kind_name" = true) (k26 : PySem.W.keepIn K (.ref f26) = true)
    (a27 : PySem.W.nsIn K mainGlobals "_law_elder" = some (some (.ref f27))) (l27 : K.lookup f27 = some ⟨oc27, od27, .func (PySem.W.fnOf "_law_elder" "_law_elder" (defArgs s_elder) (defBody s_elder) (defScope s_elder) .none kV27 dc27 pm27 an27 cd27 ct27), sl27⟩) (c27 : PySem.W.codeIn K cd27 "_law_elder" = true) (k27 : PySem.W.keepIn K (.ref f27) = true)
    (a28 : PySem.W.nsIn K mainGlobals "_law_field_parts" = some (some (.ref f28))) (l28 : K.lookup f28 = some ⟨oc28, od28, .func (PySem.W.fnOf "_law_field_parts" "_law_field_parts" (defArgs s_field_parts) (defBody s_field_parts) (defScope s_field_parts) .none kV28 dc28 pm28 an28 cd28 ct28), sl28⟩) (c28 : PySem.W.codeIn K cd28 "_law_field_parts" = true) (k28 : PySem.W.keepIn K (.ref f28) = true)
    (a29 : PySem.W.nsIn K mainGlobals "_law_elder_right" = some (some (.ref f29))) (l29 : K.lookup f29 = some ⟨oc29, od29, .func (PySem.W.fnOf "_law_elder_right" "_law_elder_right" (defArgs s_elder_right) (defBody s_elder_right) (defScope s_elder_right) .none kV29 dc29 pm29 an29 cd29 ct29), sl29⟩) (c29 : PySem.W.codeIn K cd29 "_law_elder_right" = true) (k29 : PySem.W.keepIn K (.ref f29) = true)
    (a30 : PySem.W.nsIn K mainGlobals "_law_field_right" = some (some (.ref f30))) (l30 : K.lookup f30 = some ⟨oc30, od30, .func (PySem.W.fnOf "_law_field_right" "_law_field_right" (defArgs s_field_right) (defBody s_field_right) (defScope s_field_right) .none kV30 dc30 pm30 an30 cd30 ct30), sl30⟩) (c30 : PySem.W.codeIn K cd30 "_law_field_right" = true) (k30 : PySem.W.keepIn K (.ref f30) = true)
    (a31 : PySem.W.nsIn K mainGlobals "_law_field_told" = some (some (.ref f31))) (l31 : K.lookup f31 = some ⟨oc31, od31, .func (PySem.W.fnOf "_law_field_told" "_law_field_told" (defArgs s_field_told) (defBody s_field_told) (defScope s_field_told) .none kV31 dc31 pm31 an31 cd31 ct31), sl31⟩) (c31 : PySem.W.codeIn K cd31 "_law_field_told" = true) (k31 : PySem.W.keepIn K (.ref f31) = true)
    (a32 : PySem.W.nsIn K mainGlobals "_law_field_due" = some (some (.ref f32))) (l32 : K.lookup f32 = some ⟨oc32, od32, .func (PySem.W.fnOf "_law_field_due" "_law_field_due" (defArgs s_field_due) (defBody s_field_due) (defScope s_field_due) .none kV32 dc32 pm32 an32 cd32 ct32), sl32⟩) (c32 : PySem.W.codeIn K cd32 "_law_field_due" = true) (k32 : PySem.W.keepIn K (.ref f32) = true)
    (a33 : PySem.W.nsIn K mainGlobals "_law_made_field" = some (some (.ref f33))) (l33 : K.lookup f33 = some ⟨oc33, od33, .func (PySem.W.fnOf "_law_made_field" "_law_made_field" (defArgs s_made_field) (defBody s_made_field) (defScope s_made_field) .none kV33 dc33 pm33 an33 cd33 ct33), sl33⟩) (c33 : PySem.W.codeIn K cd33 "_law_made_field" = true) (k33 : PySem.W.keepIn K (.ref f33) = true)
    (a34 : PySem.W.nsIn K mainGlobals "_law_fields_asked" = some (some (.ref f34))) (l34 : K.lookup f34 = some ⟨oc34, od34, .func (PySem.W.fnOf "_law_fields_asked" "_law_fields_asked" (defArgs s_fields_asked) (defBody s_fields_asked) (defScope s_fields_asked) .none kV34 dc34 pm34 an34 cd34 ct34), sl34⟩) (c34 : PySem.W.codeIn K cd34 "_law_fields_asked" = true) (k34 : PySem.W.keepIn K (.ref f34) = true)
    (a35 : PySem.W.nsIn K mainGlobals "_law_right_fields" = some (some (.ref f35))) (l35 : K.lookup f35 = some ⟨oc35, od35, .func (PySem.W.fnOf "_law_right_fields" "_law_right_fields" (defArgs s_right_fields) (defBody s_right_fields) (defScope s_right_fields) .none kV35 dc35 pm35 an35 cd35 ct35), sl35⟩) (c35 : PySem.W.codeIn K cd35 "_law_right_fields" = true) (k35 : PySem.W.keepIn K (.ref f35) = true)
    (a36 : PySem.W.nsIn K mainGlobals "_law_kind_parts" = some (some (.ref f36))) (l36 : K.lookup f36 = some ⟨oc36, od36, .func (PySem.W.fnOf "_law_kind_parts" "_law_kind_parts" (defArgs s_kind_parts) (defBody s_kind_parts) (defScope s_kind_parts) .none kV36 dc36 pm36 an36 cd36 ct36), sl36⟩) (c36 : PySem.W.codeIn K cd36 "_law_kind_parts" = true) (k36 : PySem.W.keepIn K (.ref f36) = true)
    (a37 : PySem.W.nsIn K mainGlobals "_law_kind_right" = some (some (.ref f37))) (l37 : K.lookup f37 = some ⟨oc37, od37, .func (PySem.W.fnOf "_law_kind_right" "_law_kind_right" (defArgs s_kind_right) (defBody s_kind_right) (defScope s_kind_right) .none kV37 dc37 pm37 an37 cd37 ct37), sl37⟩) (c37 : PySem.W.codeIn K cd37 "_law_kind_right" = true) (k37 : PySem.W.keepIn K (.ref f37) = true)
    (a38 : PySem.W.nsIn K mainGlobals "_law_kind_made" = some (some (.ref f38))) (l38 : K.lookup f38 = some ⟨oc38, od38, .func (PySem.W.fnOf "_law_kind_made" "_law_kind_made" (defArgs s_kind_made) (defBody s_kind_made) (defScope s_kind_made) .none kV38 dc38 pm38 an38 cd38 ct38), sl38⟩) (c38 : PySem.W.codeIn K cd38 "_law_kind_made" = true) (k38 : PySem.W.keepIn K (.ref f38) = true)
    (a39 : PySem.W.nsIn K mainGlobals "_law_kind_told" = some (some (.ref f39))) (l39 : K.lookup f39 = some ⟨oc39, od39, .func (PySem.W.fnOf "_law_kind_told" "_law_kind_told" (defArgs s_kind_told) (defBody s_kind_told) (defScope s_kind_told) .none kV39 dc39 pm39 an39 cd39 ct39), sl39⟩) (c39 : PySem.W.codeIn K cd39 "_law_kind_told" = true) (k39 : PySem.W.keepIn K (.ref f39) = true)
    (a40 : PySem.W.nsIn K mainGlobals "_law_kinds_asked" = some (some (.ref f40))) (l40 : K.lookup f40 = some ⟨oc40, od40, .func (PySem.W.fnOf "_law_kinds_asked" "_law_kinds_asked" (defArgs s_kinds_asked) (defBody s_kinds_asked) (defScope s_kinds_asked) .none kV40 dc40 pm40 an40 cd40 ct40), sl40⟩) (c40 : PySem.W.codeIn K cd40 "_law_kinds_asked" = true) (k40 : PySem.W.keepIn K (.ref f40) = true)
    (a41 : PySem.W.nsIn K mainGlobals "law" = some (some (.ref f41))) (l41 : K.lookup f41 = some ⟨oc41, od41, .func (PySem.W.fnOf "law" "law" (defArgs s_law) (defBody s_law) (defScope s_law) .none kV41 dc41 pm41 an41 cd41 ct41), sl41⟩) (c41 : PySem.W.codeIn K cd41 "law" = true) (k41 : PySem.W.keepIn K (.ref f41) = true)
    (gm0 : PySem.W.nsIn K mainGlobals "CAPITALS" = some (some (.str "ABCDEFGHIJKLMNOPQRSTUVWXYZ" mt0)))
    (gm1 : PySem.W.nsIn K mainGlobals "LETTERS" = some (some (.str "abcdefghijklmnopqrstuvwxyz" mt1)))
    (gm2 : PySem.W.nsIn K mainGlobals "MOST_DEFAULT" = some (some (.int 1000000000000 mt2)))
    (gm3 : PySem.W.nsIn K mainGlobals "ANY" = some (some (.str "any" mt3)))
    (gm4 : PySem.W.nsIn K mainGlobals "MODES" = some (some (.ref MW4))) (gw4 : K.lookup MW4 = some ⟨.type "tuple", mwd4, .seq #[.str "mark" mwt4_0, .str "link" mwt4_1, .str "list" mwt4_2] mwn4, mws4⟩)
    (gm5 : PySem.W.nsIn K mainGlobals "MOST_WAS" = some (some (.int 2 mt5)))
    (z0 : PySem.W.nsIn K mainGlobals "ValueError" = some none)
    (z1 : PySem.W.nsIn K mainGlobals "all" = some none)
    (z2 : PySem.W.nsIn K mainGlobals "range" = some none)
    (z3 : PySem.W.nsIn K mainGlobals "list" = some none)
    (z4 : PySem.W.nsIn K mainGlobals "isinstance" = some none)
    (z5 : PySem.W.nsIn K mainGlobals "int" = some none)
    (z6 : PySem.W.nsIn K mainGlobals "str" = some none)
    (z7 : PySem.W.nsIn K mainGlobals "tuple" = some none)
    (z8 : PySem.W.nsIn K mainGlobals "len" = some none)
    (z9 : PySem.W.nsIn K mainGlobals "bool" = some none)
    (z10 : PySem.W.nsIn K mainGlobals "any" = some none)
    (z11 : PySem.W.nsIn K mainGlobals "TypeError" = some none)
    (z12 : PySem.W.nsIn K mainGlobals "repr" = some none)
    (z13 : PySem.W.nsIn K mainGlobals "set" = some none)
    (z14 : PySem.W.nsIn K mainGlobals "super" = some none)
    : ∃ fd : FuncData, (∀ (s : Shared) (v : Value), BindsTo s fd ⟨[v], []⟩ [("_law_script", v)]) ∧ ∀ base : Heap, K.In base → base.Ns mainGlobals mg → Way.FnG l.prog w K mg base CX0 11 fa fd ["_law_script"] (spLaw K) := by
  have e := hfa.symm.trans (PySem.W.mg_of X G a41)
  cases e
  have FD9 : FunD K "__init__" "Field.__init__" (defArgs s_Field_init) (defBody s_Field_init) (defScope s_Field_init) [] [("target", .non), ("default", .int 0), ("was", .ref TE9)] f9 (PySem.W.fnOf "__init__" "Field.__init__" (defArgs s_Field_init) (defBody s_Field_init) (defScope s_Field_init) .none (.ref D9) dc9 pm9 an9 cd9 ct9) := ⟨⟨_, _, _, _, _, _, _, _, _, _, rfl, l9, c9, .inl ⟨rfl, rfl⟩, .inr ⟨D9, rfl, fun q hq => by
      rcases List.mem_cons.mp hq with rfl | hq
      · exact ⟨_, w9_0, rfl⟩
      rcases List.mem_cons.mp hq with rfl | hq
      · exact ⟨_, w9_1, ⟨_, rfl⟩⟩
      rcases List.mem_cons.mp hq with rfl | hq
      · exact ⟨_, w9_2, rfl⟩
      exact absurd hq List.not_mem_nil⟩⟩, k9⟩
  have FD13 : FunD K "__init__" "Kind.__init__" (defArgs s_Kind_init) (defBody s_Kind_init) (defScope s_Kind_init) [] [("base", .non), ("frozen", .bl false), ("heirs", .bl false), ("key", .non), ("registered", .bl false)] f13 (PySem.W.fnOf "__init__" "Kind.__init__" (defArgs s_Kind_init) (defBody s_Kind_init) (defScope s_Kind_init) .none (.ref D13) dc13 pm13 an13 cd13 ct13) := ⟨⟨_, _, _, _, _, _, _, _, _, _, rfl, l13, c13, .inl ⟨rfl, rfl⟩, .inr ⟨D13, rfl, fun q hq => by
      rcases List.mem_cons.mp hq with rfl | hq
      · exact ⟨_, w13_0, rfl⟩
      rcases List.mem_cons.mp hq with rfl | hq
      · exact ⟨_, w13_1, rfl⟩
      rcases List.mem_cons.mp hq with rfl | hq
      · exact ⟨_, w13_2, rfl⟩
      rcases List.mem_cons.mp hq with rfl | hq
      · exact ⟨_, w13_3, rfl⟩
      rcases List.mem_cons.mp hq with rfl | hq
      · exact ⟨_, w13_4, rfl⟩
      exact absurd hq List.not_mem_nil⟩⟩, k13⟩
  have XR : Way.XRoot K C0 N0 := ⟨⟨_, _, _, _, _, _, _, _, _, _, _, _, xl0⟩, ini⟩
  have XA : Way.XAll K := ⟨xhn, xht, xop⟩
  have XC1 : Way.XCls K "BadField" C1 N1 C0 := ⟨⟨_, _, _, _, _, _, _, _, _, _, _, _, xl1⟩, sa1, ga1, gg1, ha1, kc1⟩
  have XC2 : Way.XCls K "BadKind" C2 N2 C0 := ⟨⟨_, _, _, _, _, _, _, _, _, _, _, _, xl2⟩, sa2, ga2, gg2, ha2, kc2⟩
  let T : Txt l.prog K mg := {
    f_BadField_init := f0, d_BadField_init := _, c_BadField_init := cda0, cc_BadField_init := cc0, B_BadField_init := fun s us _ hl => (match us, hl with | [_, _], _ => .of_eq rfl),
    S_BadField := XC1.supFn (st := s_BadField_init) XR XA ⟨_, _, _, _, _, _, _, _, rfl, l0⟩ c0 ⟨_, _, _, _, _, _, lc0, lv0, lf0⟩ ⟨_, _, _, ll0⟩ top, i_BadField := a0, t_BadField := t0,
    f_BadKind_init := f1, d_BadKind_init := _, c_BadKind_init := cda1, cc_BadKind_init := cc1, B_BadKind_init := fun s us _ hl => (match us, hl with | [_, _], _ => .of_eq rfl),
    S_BadKind := XC2.supFn (st := s_BadKind_init) XR XA ⟨_, _, _, _, _, _, _, _, rfl, l1⟩ c1 ⟨_, _, _, _, _, _, lc1, lv1, lf1⟩ ⟨_, _, _, ll1⟩ top, i_BadKind := a1, t_BadKind := t1,
    f_is_integer := f2, d_is_integer := _, F_is_integer := fun_mk (st := s_is_integer) l2 c2 k2, B_is_integer := (fun_mk (st := s_is_integer) l2 c2 k2).binds (ps := P_is_integer) (fun _ _ _ _ _ _ us hl => match us, hl with | [_], _ => rfl), g_is_integer := PySem.W.mg_of X G a2,
    f_is_letters := f3, d_is_letters := _, F_is_letters := fun_mk (st := s_is_letters) l3 c3 k3, B_is_letters := (fun_mk (st := s_is_letters) l3 c3 k3).binds (ps := P_is_letters) (fun _ _ _ _ _ _ us hl => match us, hl with | [_], _ => rfl), g_is_letters := PySem.W.mg_of X G a3,
    f_is_kind_name := f4, d_is_kind_name := _, F_is_kind_name := fun_mk (st := s_is_kind_name) l4 c4 k4, B_is_kind_name := (fun_mk (st := s_is_kind_name) l4 c4 k4).binds (ps := P_is_kind_name) (fun _ _ _ _ _ _ us hl => match us, hl with | [_], _ => rfl), g_is_kind_name := PySem.W.mg_of X G a4,
    f_is_field_name := f5, d_is_field_name := _, F_is_field_name := fun_mk (st := s_is_field_name) l5 c5 k5, B_is_field_name := (fun_mk (st := s_is_field_name) l5 c5 k5).binds (ps := P_is_field_name) (fun _ _ _ _ _ _ us hl => match us, hl with | [_], _ => rfl), g_is_field_name := PySem.W.mg_of X G a5,
    f_is_target := f6, d_is_target := _, F_is_target := fun_mk (st := s_is_target) l6 c6 k6, B_is_target := (fun_mk (st := s_is_target) l6 c6 k6).binds (ps := P_is_target) (fun _ _ _ _ _ _ us hl => match us, hl with | [_], _ => rfl), g_is_target := PySem.W.mg_of X G a6,
    f_fits_mode := f7, d_fits_mode := _, F_fits_mode := fun_mk (st := s_fits_mode) l7 c7 k7, B_fits_mode := (fun_mk (st := s_fits_mode) l7 c7 k7).binds (ps := P_fits_mode) (fun _ _ _ _ _ _ us hl => match us, hl with | [_, _, _], _ => rfl), g_fits_mode := PySem.W.mg_of X G a7,
    f_are_elder_names := f8, d_are_elder_names := _, F_are_elder_names := fun_mk (st := s_are_elder_names) l8 c8 k8, B_are_elder_names := (fun_mk (st := s_are_elder_names) l8 c8 k8).binds (ps := P_are_elder_names) (fun _ _ _ _ _ _ us hl => match us, hl with | [_, _], _ => rfl), g_are_elder_names := PySem.W.mg_of X G a8,
    f_Field_init := f9, d_Field_init := _, F_Field_init := FD9, e0_Field_init := TE9, et_Field_init := fun H => .inr ⟨_, _, _, te9, rfl, rfl, Nat.zero_le _, .nil⟩,
    f_Field_eq := f10, d_Field_eq := _, F_Field_eq := fun_mk (st := s_Field_eq) l10 c10 k10, B_Field_eq := (fun_mk (st := s_Field_eq) l10 c10 k10).binds (ps := P_Field_eq) (fun _ _ _ _ _ _ us hl => match us, hl with | [_, _], _ => rfl),
    f_are_fields := f11, d_are_fields := _, F_are_fields := fun_mk (st := s_are_fields) l11 c11 k11, B_are_fields := (fun_mk (st := s_are_fields) l11 c11 k11).binds (ps := P_are_fields) (fun _ _ _ _ _ _ us hl => match us, hl with | [_, _], _ => rfl), g_are_fields := PySem.W.mg_of X G a11,
    f_fits_flags := f12, d_fits_flags := _, F_fits_flags := fun_mk (st := s_fits_flags) l12 c12 k12, B_fits_flags := (fun_mk (st := s_fits_flags) l12 c12 k12).binds (ps := P_fits_flags) (fun _ _ _ _ _ _ us hl => match us, hl with | [_, _, _], _ => rfl), g_fits_flags := PySem.W.mg_of X G a12,
    f_Kind_init := f13, d_Kind_init := _, F_Kind_init := FD13,
    f_Kind_eq := f14, d_Kind_eq := _, F_Kind_eq := fun_mk (st := s_Kind_eq) l14 c14 k14, B_Kind_eq := (fun_mk (st := s_Kind_eq) l14 c14 k14).binds (ps := P_Kind_eq) (fun _ _ _ _ _ _ us hl => match us, hl with | [_, _], _ => rfl),
    f_pen := f15, d_pen := _, F_pen := fun_mk (st := s_pen) l15 c15 k15, B_pen := (fun_mk (st := s_pen) l15 c15 k15).binds (ps := P_pen) (fun _ _ _ _ _ _ us hl => match us, hl with | [_], _ => rfl), g_pen := PySem.W.mg_of X G a15,
    f_take := f16, d_take := _, F_take := fun_mk (st := s_take) l16 c16 k16, B_take := (fun_mk (st := s_take) l16 c16 k16).binds (ps := P_take) (fun _ _ _ _ _ _ us hl => match us, hl with | [_, _], _ => rfl), g_take := PySem.W.mg_of X G a16,
    f_one_of := f17, d_one_of := _, F_one_of := fun_mk (st := s_one_of) l17 c17 k17, B_one_of := (fun_mk (st := s_one_of) l17 c17 k17).binds (ps := P_one_of) (fun _ _ _ _ _ _ us hl => match us, hl with | [_, _], _ => rfl), g_one_of := PySem.W.mg_of X G a17,
    f_l_is_integer := f18, d_l_is_integer := _, F_l_is_integer := fun_mk (st := s_l_is_integer) l18 c18 k18, B_l_is_integer := (fun_mk (st := s_l_is_integer) l18 c18 k18).binds (ps := P_l_is_integer) (fun _ _ _ _ _ _ us hl => match us, hl with | [_], _ => rfl), g_l_is_integer := PySem.W.mg_of X G a18,
    f_word := f19, d_word := _, F_word := fun_mk (st := s_word) l19 c19 k19, B_word := (fun_mk (st := s_word) l19 c19 k19).binds (ps := P_word) (fun _ _ _ _ _ _ us hl => match us, hl with | [_, _, _, _, _], _ => rfl), g_word := PySem.W.mg_of X G a19,
    f_words := f20, d_words := _, F_words := fun_mk (st := s_words) l20 c20 k20, B_words := (fun_mk (st := s_words) l20 c20 k20).binds (ps := P_words) (fun _ _ _ _ _ _ us hl => match us, hl with | [_, _, _], _ => rfl), g_words := PySem.W.mg_of X G a20,
    f_kind_names := f21, d_kind_names := _, F_kind_names := fun_mk (st := s_kind_names) l21 c21 k21, B_kind_names := (fun_mk (st := s_kind_names) l21 c21 k21).binds (ps := P_kind_names) (fun _ _ _ _ _ _ us hl => match us, hl with | [_, _], _ => rfl), g_kind_names := PySem.W.mg_of X G a21,
    f_odd := f22, d_odd := _, F_odd := fun_mk (st := s_odd) l22 c22 k22, B_odd := (fun_mk (st := s_odd) l22 c22 k22).binds (ps := P_odd) (fun _ _ _ _ _ _ us hl => match us, hl with | [_], _ => rfl), g_odd := PySem.W.mg_of X G a22,
    f_same := f23, d_same := _, F_same := fun_mk (st := s_same) l23 c23 k23, B_same := (fun_mk (st := s_same) l23 c23 k23).binds (ps := P_same) (fun _ _ _ _ _ _ us hl => match us, hl with | [_, _], _ => rfl), g_same := PySem.W.mg_of X G a23,
    f_letters := f24, d_letters := _, F_letters := fun_mk (st := s_letters) l24 c24 k24, B_letters := (fun_mk (st := s_letters) l24 c24 k24).binds (ps := P_letters) (fun _ _ _ _ _ _ us hl => match us, hl with | [_], _ => rfl), g_letters := PySem.W.mg_of X G a24,
    f_l_is_field_name := f25, d_l_is_field_name := _, F_l_is_field_name := fun_mk (st := s_l_is_field_name) l25 c25 k25, B_l_is_field_name := (fun_mk (st := s_l_is_field_name) l25 c25 k25).binds (ps := P_l_is_field_name) (fun _ _ _ _ _ _ us hl => match us, hl with | [_], _ => rfl), g_l_is_field_name := PySem.W.mg_of X G a25,
    f_l_is_kind_name := f26, d_l_is_kind_name := _, F_l_is_kind_name := fun_mk (st := s_l_is_kind_name) l26 c26 k26, B_l_is_kind_name := (fun_mk (st := s_l_is_kind_name) l26 c26 k26).binds (ps := P_l_is_kind_name) (fun _ _ _ _ _ _ us hl => match us, hl with | [_], _ => rfl), g_l_is_kind_name := PySem.W.mg_of X G a26,
    f_elder := f27, d_elder := _, F_elder := fun_mk (st := s_elder) l27 c27 k27, B_elder := (fun_mk (st := s_elder) l27 c27 k27).binds (ps := P_elder) (fun _ _ _ _ _ _ us hl => match us, hl with | [_, _, _], _ => rfl), g_elder := PySem.W.mg_of X G a27,
    f_field_parts := f28, d_field_parts := _, F_field_parts := fun_mk (st := s_field_parts) l28 c28 k28, B_field_parts := (fun_mk (st := s_field_parts) l28 c28 k28).binds (ps := P_field_parts) (fun _ _ _ _ _ _ us hl => match us, hl with | [_, _, _, _], _ => rfl), g_field_parts := PySem.W.mg_of X G a28,
    f_elder_right := f29, d_elder_right := _, F_elder_right := fun_mk (st := s_elder_right) l29 c29 k29, B_elder_right := (fun_mk (st := s_elder_right) l29 c29 k29).binds (ps := P_elder_right) (fun _ _ _ _ _ _ us hl => match us, hl with | [_, _], _ => rfl), g_elder_right := PySem.W.mg_of X G a29,
    f_field_right := f30, d_field_right := _, F_field_right := fun_mk (st := s_field_right) l30 c30 k30, B_field_right := (fun_mk (st := s_field_right) l30 c30 k30).binds (ps := P_field_right) (fun _ _ _ _ _ _ us hl => match us, hl with | [_], _ => rfl), g_field_right := PySem.W.mg_of X G a30,
    f_field_told := f31, d_field_told := _, F_field_told := fun_mk (st := s_field_told) l31 c31 k31, B_field_told := (fun_mk (st := s_field_told) l31 c31 k31).binds (ps := P_field_told) (fun _ _ _ _ _ _ us hl => match us, hl with | [_, _], _ => rfl), g_field_told := PySem.W.mg_of X G a31,
    f_field_due := f32, d_field_due := _, F_field_due := fun_mk (st := s_field_due) l32 c32 k32, B_field_due := (fun_mk (st := s_field_due) l32 c32 k32).binds (ps := P_field_due) (fun _ _ _ _ _ _ us hl => match us, hl with | [_], _ => rfl), g_field_due := PySem.W.mg_of X G a32,
    f_made_field := f33, d_made_field := _, F_made_field := fun_mk (st := s_made_field) l33 c33 k33, B_made_field := (fun_mk (st := s_made_field) l33 c33 k33).binds (ps := P_made_field) (fun _ _ _ _ _ _ us hl => match us, hl with | [_], _ => rfl), g_made_field := PySem.W.mg_of X G a33,
    f_fields_asked := f34, d_fields_asked := _, F_fields_asked := fun_mk (st := s_fields_asked) l34 c34 k34, B_fields_asked := (fun_mk (st := s_fields_asked) l34 c34 k34).binds (ps := P_fields_asked) (fun _ _ _ _ _ _ us hl => match us, hl with | [_, _, _], _ => rfl), g_fields_asked := PySem.W.mg_of X G a34,
    f_right_fields := f35, d_right_fields := _, F_right_fields := fun_mk (st := s_right_fields) l35 c35 k35, B_right_fields := (fun_mk (st := s_right_fields) l35 c35 k35).binds (ps := P_right_fields) (fun _ _ _ _ _ _ us hl => match us, hl with | [_, _, _, _], _ => rfl), g_right_fields := PySem.W.mg_of X G a35,
    f_kind_parts := f36, d_kind_parts := _, F_kind_parts := fun_mk (st := s_kind_parts) l36 c36 k36, B_kind_parts := (fun_mk (st := s_kind_parts) l36 c36 k36).binds (ps := P_kind_parts) (fun _ _ _ _ _ _ us hl => match us, hl with | [_, _, _], _ => rfl), g_kind_parts := PySem.W.mg_of X G a36,
    f_kind_right := f37, d_kind_right := _, F_kind_right := fun_mk (st := s_kind_right) l37 c37 k37, B_kind_right := (fun_mk (st := s_kind_right) l37 c37 k37).binds (ps := P_kind_right) (fun _ _ _ _ _ _ us hl => match us, hl with | [_], _ => rfl), g_kind_right := PySem.W.mg_of X G a37,
    f_kind_made := f38, d_kind_made := _, F_kind_made := fun_mk (st := s_kind_made) l38 c38 k38, B_kind_made := (fun_mk (st := s_kind_made) l38 c38 k38).binds (ps := P_kind_made) (fun _ _ _ _ _ _ us hl => match us, hl with | [_], _ => rfl), g_kind_made := PySem.W.mg_of X G a38,
    f_kind_told := f39, d_kind_told := _, F_kind_told := fun_mk (st := s_kind_told) l39 c39 k39, B_kind_told := (fun_mk (st := s_kind_told) l39 c39 k39).binds (ps := P_kind_told) (fun _ _ _ _ _ _ us hl => match us, hl with | [_, _], _ => rfl), g_kind_told := PySem.W.mg_of X G a39,
    f_kinds_asked := f40, d_kinds_asked := _, F_kinds_asked := fun_mk (st := s_kinds_asked) l40 c40 k40, B_kinds_asked := (fun_mk (st := s_kinds_asked) l40 c40 k40).binds (ps := P_kinds_asked) (fun _ _ _ _ _ _ us hl => match us, hl with | [_, _, _], _ => rfl), g_kinds_asked := PySem.W.mg_of X G a40,
    f_law := fa, d_law := _, F_law := fun_mk (st := s_law) l41 c41 k41, B_law := (fun_mk (st := s_law) l41 c41 k41).binds (ps := P_law) (fun _ _ _ _ _ _ us hl => match us, hl with | [_], _ => rfl), g_law := PySem.W.mg_of X G a41,
    C_WayError := C0, nsp_WayError := N0, g_WayError := PySem.W.mg_of X G gc0, r_WayError := XR, xall := XA,
    C_BadField := C1, nsp_BadField := N1, g_BadField := PySem.W.mg_of X G gc1, X_BadField := XC1,
    na_BadField_name := na1_0,
    C_BadKind := C2, nsp_BadKind := N2, g_BadKind := PySem.W.mg_of X G gc2, X_BadKind := XC2,
    na_BadKind_name := na2_0,
    C_Field := C3, g_Field := PySem.W.mg_of X G gc3, cl_Field := ⟨pg3, hd3, po3, sa3⟩,
    M_Field := ⟨mk3, a9, i9, kc3⟩,
    na_Field_name := na3_0,
    na_Field_mode := na3_1,
    na_Field_target := na3_2,
    na_Field_default := na3_3,
    na_Field_was := na3_4,
    m_Field_eq := ⟨a10, i10, k10⟩,
    ic_Field := ⟨xic_Field_0, xic_Field_1, xic_Field_2, xic_Field_3, xic_Field_4, xic_Field_5, xic_Field_6⟩,
    C_Kind := C4, g_Kind := PySem.W.mg_of X G gc4, cl_Kind := ⟨pg4, hd4, po4, sa4⟩,
    M_Kind := ⟨mk4, a13, i13, kc4⟩,
    na_Kind_name := na4_0,
    na_Kind_fields := na4_1,
    na_Kind_base := na4_2,
    na_Kind_frozen := na4_3,
    na_Kind_heirs := na4_4,
    na_Kind_key := na4_5,
    na_Kind_registered := na4_6,
    m_Kind_eq := ⟨a14, i14, k14⟩,
    ic_Kind := ⟨xic_Kind_0, xic_Kind_1, xic_Kind_2, xic_Kind_3, xic_Kind_4, xic_Kind_5, xic_Kind_6⟩,
    C_House := C5, g_House := PySem.W.mg_of X G gc5, cl_House := ⟨pg5, hd5, po5, sa5⟩,
    cr_House := ⟨rd5, cg5⟩,
    tk_House_KINDS := it5_0, cv_House_KINDS := ⟨ic5_0, ⟨_, rfl⟩⟩,
    tk_House_FIELDS := it5_1, cv_House_FIELDS := ⟨ic5_1, ⟨_, rfl⟩⟩,
    tk_CAPITALS := mt0, g_CAPITALS := PySem.W.mg_of X G gm0,
    tk_LETTERS := mt1, g_LETTERS := PySem.W.mg_of X G gm1,
    tk_MOST_DEFAULT := mt2, g_MOST_DEFAULT := PySem.W.mg_of X G gm2,
    tk_ANY := mt3, g_ANY := PySem.W.mg_of X G gm3,
    w_MODES := MW4, g_MODES := PySem.W.mg_of X G gm4, ct_MODES := fun H => .inr ⟨_, _, _, gw4, rfl, rfl, Nat.le_of_ble_eq_true rfl, .cons ⟨_, rfl⟩ (.cons ⟨_, rfl⟩ (.cons ⟨_, rfl⟩ (.nil)))⟩,
    tk_MOST_WAS := mt5, g_MOST_WAS := PySem.W.mg_of X G gm5,
    b_ValueError := PySem.W.mg_none_of X G z0,
    b_all := PySem.W.mg_none_of X G z1,
    b_range := PySem.W.mg_none_of X G z2,
    b_list := PySem.W.mg_none_of X G z3,
    b_isinstance := PySem.W.mg_none_of X G z4,
    b_int := PySem.W.mg_none_of X G z5,
    b_str := PySem.W.mg_none_of X G z6,
    b_tuple := PySem.W.mg_none_of X G z7,
    b_len := PySem.W.mg_none_of X G z8,
    b_bool := PySem.W.mg_none_of X G z9,
    b_any := PySem.W.mg_none_of X G z10,
    b_TypeError := PySem.W.mg_none_of X G z11,
    b_repr := PySem.W.mg_none_of X G z12,
    b_set := PySem.W.mg_none_of X G z13,
    b_super := PySem.W.mg_none_of X G z14 }
  exact ⟨PySem.W.fnOf "law" "law" (defArgs s_law) (defBody s_law) (defScope s_law) .none kV41 dc41 pm41 an41 cd41 ct41, fun s v => .of_eq rfl, fun base _ _ => ok_law T⟩
theorem walk {l : PySem.W.OpenLaw} {q : Program} {loose : List Str} {XP : (Str → Option Value) → Heap → Prop} {YP : World → Heap → Prop} {d : DefRec} {K : Params → PySem.W.Frag} (hn : l.most = some 63) (hdf : d.params.defaults = [])
    (hY : ∀ (w : World) (h : Heap), YP w h → (K w.params).In h)
    (F : ∀ (w : World) (mg : Str → Option Value) (fa : Addr) (h : Heap), (K w.params).In h → h.Ns mainGlobals mg → mg d.name = some (.ref fa) →
      ∃ fd : FuncData, (∀ (s : Shared) (u : Value), BindsTo s fd ⟨[u], []⟩ [("_law_script", u)]) ∧ ∀ base : Heap, (K w.params).In base → base.Ns mainGlobals mg → Way.FnG l.prog w (K w.params) mg base CX0 11 fa fd ["_law_script"] (spLaw (K w.params))) :
    PySem.W.WalkO q loose XP YP l.row.toRowW d [] (fun f vs => PySem.call f vs) :=
  Way.walk_ofG (n := 63) (k := 11) (x := "_law_script") (CX := fun _ => CX0) (sp := fun w => spLaw (K w.params)) hn (by decide) hdf ⟨rfl, by decide, by decide⟩ hY F (fun _ _ a ns hl _ hS => ⟨a, ns, rfl, hS, hl, fun _ => rfl⟩) fun _ _ _ _ _ z => z
end K01

open PySem PySem.W PyProof.Rows in
set_option maxRecDepth 100000 in
set_option maxHeartbeats 0 in
theorem PySem.Challenge.cw_waypairs_k01_fields_and_kinds_made_holds : PySem.Challenge.rw_waypairs_k01_fields_and_kinds_made.Holds := by
  w_on; o_law; k_head; (case hw => w_witness2)
  k_fill
  refine K01.walk (l := PySem.Challenge.rw_waypairs_k01_fields_and_kinds_made) rfl rfl (fun w h Y => PySem.W.kIn_of Y) ?F
  case F =>
    intro w mg fa h KX G hmg
    refine' K01.all_mk KX G hmg ?gc0 ?xl0 ?ini ?xhn ?xht ?xop ?top ?gc1 ?xl1 ?sa1 ?ga1 ?gg1 ?ha1 ?kc1 ?na1_0 ?gc2 ?xl2 ?sa2 ?ga2 ?gg2 ?ha2 ?kc2 ?na2_0 ?gc3 ?pg3 ?hd3 ?po3 ?sa3 ?mk3 ?kc3 ?na3_0 ?na3_1 ?na3_2 ?na3_3 ?na3_4 ?xic_Field_0 ?xic_Field_1 ?xic_Field_2 ?xic_Field_3 ?xic_Field_4 ?xic_Field_5 ?xic_Field_6 ?gc4 ?pg4 ?hd4 ?po4 ?sa4 ?mk4 ?kc4 ?na4_0 ?na4_1 ?na4_2 ?na4_3 ?na4_4 ?na4_5 ?na4_6 ?xic_Kind_0 ?xic_Kind_1 ?xic_Kind_2 ?xic_Kind_3 ?xic_Kind_4 ?xic_Kind_5 ?xic_Kind_6 ?gc5 ?pg5 ?hd5 ?po5 ?sa5 ?rd5 ?cg5 ?ic5_0 ?ic5_1 ?a0 ?l0 ?c0 ?t0 ?lc0 ?lv0 ?lf0 ?ll0 ?a1 ?l1 ?c1 ?t1 ?lc1 ?lv1 ?lf1 ?ll1 ?a2 ?l2 ?c2 ?k2 ?a3 ?l3 ?c3 ?k3 ?a4 ?l4 ?c4 ?k4 ?a5 ?l5 ?c5 ?k5 ?a6 ?l6 ?c6 ?k6 ?a7 ?l7 ?c7 ?k7 ?a8 ?l8 ?c8 ?k8 ?a9 ?l9 ?c9 ?k9 ?i9 ?w9_0 ?w9_1 ?w9_2 ?te9 ?a10 ?l10 ?c10 ?k10 ?i10 ?a11 ?l11 ?c11 ?k11 ?a12 ?l12 ?c12 ?k12 ?a13 ?l13 ?c13 ?k13 ?i13 ?w13_0 ?w13_1 ?w13_2 ?w13_3 ?w13_4 ?a14 ?l14 ?c14 ?k14 ?i14 ?a15 ?l15 ?c15 ?k15 ?a16 ?l16 ?c16 ?k16 ?a17 ?l17 ?c17 ?k17 ?a18 ?l18 ?c18 ?k18 ?a19 ?l19 ?c19 ?k19 ?a20 ?l20 ?c20 ?k20 ?a21 ?l21 ?c21 ?k21 ?a22 ?l22 ?c22 ?k22 ?a23 ?l23 ?c23 ?k23 ?a24 ?l24 ?c24 ?k24 ?a25 ?l25 ?c25 ?k25 ?a26 ?l26 ?c26 ?k26 ?a27 ?l27 ?c27 ?k27 ?a28 ?l28 ?c28 ?k28 ?a29 ?l29 ?c29 ?k29 ?a30 ?l30 ?c30 ?k30 ?a31 ?l31 ?c31 ?k31 ?a32 ?l32 ?c32 ?k32 ?a33 ?l33 ?c33 ?k33 ?a34 ?l34 ?c34 ?k34 ?a35 ?l35 ?c35 ?k35 ?a36 ?l36 ?c36 ?k36 ?a37 ?l37 ?c37 ?k37 ?a38 ?l38 ?c38 ?k38 ?a39 ?l39 ?c39 ?k39 ?a40 ?l40 ?c40 ?k40 ?a41 ?l41 ?c41 ?k41 ?gm0 ?gm1 ?gm2 ?gm3 ?gm4 ?gw4 ?gm5 ?z0 ?z1 ?z2 ?z3 ?z4 ?z5 ?z6 ?z7 ?z8 ?z9 ?z10 ?z11 ?z12 ?z13 ?z14
    (case gc0 => k_is)
    (case xl0 => k_is)
    (case ini => k_is)
    (case xhn => k_is)
    (case xht => k_is)
    (case xop => k_is)
    (case top => first | rfl | decide +kernel)
    (case gc1 => k_is)
    (case xl1 => k_is)
    (case sa1 => k_is)
    (case ga1 => k_is)
    (case gg1 => k_is)
    (case ha1 => k_is)
    (case kc1 => k_is)
    (case na1_0 => k_is)
    (case gc2 => k_is)
    (case xl2 => k_is)
    (case sa2 => k_is)
    (case ga2 => k_is)
    (case gg2 => k_is)
    (case ha2 => k_is)
    (case kc2 => k_is)
    (case na2_0 => k_is)
    (case gc3 => k_is)
    (case pg3 => k_is)
    (case hd3 => k_is)
    (case po3 => k_is)
    (case sa3 => k_is)
    (case mk3 => k_is)
    (case kc3 => k_is)
    (case na3_0 => k_is)
    (case na3_1 => k_is)
    (case na3_2 => k_is)
    (case na3_3 => k_is)
    (case na3_4 => k_is)
    (case xic_Field_0 => k_is)
    (case xic_Field_1 => k_is)
    (case xic_Field_2 => k_is)
    (case xic_Field_3 => k_is)
    (case xic_Field_4 => k_is)
    (case xic_Field_5 => k_is)
    (case xic_Field_6 => k_is)
    (case gc4 => k_is)
    (case pg4 => k_is)
    (case hd4 => k_is)
    (case po4 => k_is)
    (case sa4 => k_is)
    (case mk4 => k_is)
    (case kc4 => k_is)
    (case na4_0 => k_is)
    (case na4_1 => k_is)
    (case na4_2 => k_is)
    (case na4_3 => k_is)
    (case na4_4 => k_is)
    (case na4_5 => k_is)
    (case na4_6 => k_is)
    (case xic_Kind_0 => k_is)
    (case xic_Kind_1 => k_is)
    (case xic_Kind_2 => k_is)
    (case xic_Kind_3 => k_is)
    (case xic_Kind_4 => k_is)
    (case xic_Kind_5 => k_is)
    (case xic_Kind_6 => k_is)
    (case gc5 => k_is)
    (case pg5 => k_is)
    (case hd5 => k_is)
    (case po5 => k_is)
    (case sa5 => k_is)
    (case rd5 => k_is)
    (case cg5 => k_is)
    (case ic5_0 => k_is)
    (case ic5_1 => k_is)
    (case a0 => k_is)
    (case l0 => k_is)
    (case c0 => k_is)
    (case t0 => k_is)
    (case lc0 => k_is)
    (case lv0 => rfl)
    (case lf0 => first | rfl | decide +kernel)
    (case ll0 => k_is)
    (case a1 => k_is)
    (case l1 => k_is)
    (case c1 => k_is)
    (case t1 => k_is)
    (case lc1 => k_is)
    (case lv1 => rfl)
    (case lf1 => first | rfl | decide +kernel)
    (case ll1 => k_is)
    (case a2 => k_is)
    (case l2 => k_is)
    (case c2 => k_is)
    (case k2 => k_is)
    (case a3 => k_is)
    (case l3 => k_is)
    (case c3 => k_is)
    (case k3 => k_is)
    (case a4 => k_is)
    (case l4 => k_is)
    (case c4 => k_is)
    (case k4 => k_is)
    (case a5 => k_is)
    (case l5 => k_is)
    (case c5 => k_is)
    (case k5 => k_is)
    (case a6 => k_is)
    (case l6 => k_is)
    (case c6 => k_is)
    (case k6 => k_is)
    (case a7 => k_is)
    (case l7 => k_is)
    (case c7 => k_is)
    (case k7 => k_is)
    (case a8 => k_is)
    (case l8 => k_is)
    (case c8 => k_is)
    (case k8 => k_is)
    (case a9 => k_is)
    (case l9 => k_is)
    (case c9 => k_is)
    (case k9 => k_is)
    (case i9 => k_is)
    (case w9_0 => k_is)
    (case w9_1 => k_is)
    (case w9_2 => k_is)
    (case te9 => k_is)
    (case a10 => k_is)
    (case l10 => k_is)
    (case c10 => k_is)
    (case k10 => k_is)
    (case i10 => k_is)
    (case a11 => k_is)
    (case l11 => k_is)
    (case c11 => k_is)
    (case k11 => k_is)
    (case a12 => k_is)
    (case l12 => k_is)
    (case c12 => k_is)
    (case k12 => k_is)
    (case a13 => k_is)
    (case l13 => k_is)
    (case c13 => k_is)
    (case k13 => k_is)
    (case i13 => k_is)
    (case w13_0 => k_is)
    (case w13_1 => k_is)
    (case w13_2 => k_is)
    (case w13_3 => k_is)
    (case w13_4 => k_is)
    (case a14 => k_is)
    (case l14 => k_is)
    (case c14 => k_is)
    (case k14 => k_is)
    (case i14 => k_is)
    (case a15 => k_is)
    (case l15 => k_is)
    (case c15 => k_is)
    (case k15 => k_is)
    (case a16 => k_is)
    (case l16 => k_is)
    (case c16 => k_is)
    (case k16 => k_is)
    (case a17 => k_is)
    (case l17 => k_is)
    (case c17 => k_is)
    (case k17 => k_is)
    (case a18 => k_is)
    (case l18 => k_is)
    (case c18 => k_is)
    (case k18 => k_is)
    (case a19 => k_is)
    (case l19 => k_is)
    (case c19 => k_is)
    (case k19 => k_is)
    (case a20 => k_is)
    (case l20 => k_is)
    (case c20 => k_is)
    (case k20 => k_is)
    (case a21 => k_is)
    (case l21 => k_is)
    (case c21 => k_is)
    (case k21 => k_is)
    (case a22 => k_is)
    (case l22 => k_is)
    (case c22 => k_is)
    (case k22 => k_is)
    (case a23 => k_is)
    (case l23 => k_is)
    (case c23 => k_is)
    (case k23 => k_is)
    (case a24 => k_is)
    (case l24 => k_is)
    (case c24 => k_is)
    (case k24 => k_is)
    (case a25 => k_is)
    (case l25 => k_is)
    (case c25 => k_is)
    (case k25 => k_is)
    (case a26 => k_is)
    (case l26 => k_is)
    (case c26 => k_is)
    (case k26 => k_is)
    (case a27 => k_is)
    (case l27 => k_is)
    (case c27 => k_is)
    (case k27 => k_is)
    (case a28 => k_is)
    (case l28 => k_is)
    (case c28 => k_is)
    (case k28 => k_is)
    (case a29 => k_is)
    (case l29 => k_is)
    (case c29 => k_is)
    (case k29 => k_is)
    (case a30 => k_is)
    (case l30 => k_is)
    (case c30 => k_is)
    (case k30 => k_is)
    (case a31 => k_is)
    (case l31 => k_is)
    (case c31 => k_is)
    (case k31 => k_is)
    (case a32 => k_is)
    (case l32 => k_is)
    (case c32 => k_is)
    (case k32 => k_is)
    (case a33 => k_is)
    (case l33 => k_is)
    (case c33 => k_is)
    (case k33 => k_is)
    (case a34 => k_is)
    (case l34 => k_is)
    (case c34 => k_is)
    (case k34 => k_is)
    (case a35 => k_is)
    (case l35 => k_is)
    (case c35 => k_is)
    (case k35 => k_is)
    (case a36 => k_is)
    (case l36 => k_is)
    (case c36 => k_is)
    (case k36 => k_is)
    (case a37 => k_is)
    (case l37 => k_is)
    (case c37 => k_is)
    (case k37 => k_is)
    (case a38 => k_is)
    (case l38 => k_is)
    (case c38 => k_is)
    (case k38 => k_is)
    (case a39 => k_is)
    (case l39 => k_is)
    (case c39 => k_is)
    (case k39 => k_is)
    (case a40 => k_is)
    (case l40 => k_is)
    (case c40 => k_is)
    (case k40 => k_is)
    (case a41 => k_is)
    (case l41 => k_is)
    (case c41 => k_is)
    (case k41 => k_is)
    (case gm0 => k_is)
    (case gm1 => k_is)
    (case gm2 => k_is)
    (case gm3 => k_is)
    (case gm4 => k_is)
    (case gw4 => k_is)
    (case gm5 => k_is)
    (case z0 => k_is)
    (case z1 => k_is)
    (case z2 => k_is)
    (case z3 => k_is)
    (case z4 => k_is)
    (case z5 => k_is)
    (case z6 => k_is)
    (case z7 => k_is)
    (case z8 => k_is)
    (case z9 => k_is)
    (case z10 => k_is)
    (case z11 => k_is)
    (case z12 => k_is)
    (case z13 => k_is)
    (case z14 => k_is)
#print axioms PySem.Challenge.cw_waypairs_k01_fields_and_kinds_made_holds
