import PyProof.Rows.All
import Wide.All
import OpenK.AllK
import Wide.FinOn
import HandS.ForMost
import HandS.Zip
import HandS.Walk
import HandS.IsInst
import HandS.Evl
import HandS.Defaults
import HandS.Style
import KE.GoesEnum
import HandS.OwnEq
import HandS.More
import PyProof.ReprRoads
import PyProof.ReprLen
import PyProof.CallFns
import HandS.Words
import HandS.Small
import HandS.Nested
import HandS.ExcInit
import KE.KExcSuper
import KE.KSuper
import HandS.ExcField
import HandS.MakeKw
import HandS.ExcIs
import HandS.ExcValue
import KE.KExcIs
import HandS.MakeKwOnly
import KE.KIsAll
import KE.KTryMore
import HandS.ExcOwn
import HandS.Wide
import HandS.TryOnly
import PySem.Challenge.RW_waypairs_k00_errors_and_their_fields
set_option Elab.async false
set_option linter.all false
set_option maxRecDepth 100000
set_option maxHeartbeats 4000000
/-! enumerate over a tuple -/
namespace Way
open PySem PySem.Spec PyProof.Rows L2
set_option maxHeartbeats 1000000 in
theorem meets_enumerate_newT {v : Value} {o : Obj} {H : Heap → Prop} (B : Begins v o H) :
    Meets (Builtin.«enumerate.__new__» ⟨[.type "enumerate", v], []⟩) (fun _ R s => H s.heap ∧
      R (.ok (.ret (.ref (s.heap.push o).objs.size))) { s with heap := (s.heap.push o).push { cls := .type "enumerate", data := .fields #[.none, .bool false, .ref s.heap.objs.size, rawInt 0, .none, .none] } }) :=
  .of_wp fun prog w A R s h => by
    obtain ⟨hp, g, d, tk, os⟩ := s; obtain ⟨h1, h⟩ := h
    have hsub := sub_enumerate
    have q1 : ∀ {A' : Around} {E : Value → Shared → Prop} {Q : Value → Shared → Prop}, Q (.ref hp.objs.size) ⟨hp.push o, g, d, tk, os⟩ → wpAny (model prog w) A' (pyIter v) Q E ⟨hp, g, d, tk, os⟩ :=
      fun q => B.iter prog w _ _ ⟨hp, g, d, tk, os⟩ _ h1 q
    wp_walk using q1
    refine wpAny_stack_any fun st => wpAny_pure ?_
    split
    · rename_i c _ _ _ _ _
      cases (c == Value.type "enumerate")
      · wp_walk using q1
        exact ⟨_, rfl, h⟩
      · wp_walk using q1
        exact ⟨_, rfl, h⟩
    · wp_walk using q1
      exact ⟨_, rfl, h⟩
theorem enum_beginsT {prog : Program} {w : World} {A : Around} {E : Value → Shared → Prop} {s : Shared} {v : Value} {o : Obj} {H : Heap → Prop} {Q : Value → Shared → Prop} (B : Begins v o H) (h1 : H s.heap)
    (h : ∀ h', IsEnum h' (s.heap.objs.size + 1) s.heap.objs.size 0 .none → h'.get? s.heap.objs.size = some o → h'.objs.size = s.heap.objs.size + 2 →
      (∀ b o, s.heap.get? b = some o → h'.get? b = some o) → Q (.ref (s.heap.objs.size + 1)) { s with heap := h' }) :
    wpAny (model prog w) A (call (.type "enumerate") [v]) Q E s := by
  refine callType_new F.called_enumerate (by decide) (F.typeCall_enumerate_1 _) (F.newCall_enumerate_1 _) (fun obj => F.args_object_init_2 obj _) F.entry_enumerate_new
    (meets_enumerate_newT B) ⟨h1, ?_⟩
  have hz : (s.heap.push o).objs.size = s.heap.objs.size + 1 := Heap.size_push ..
  show _ ∧ _
  rw [hz]
  have he : IsEnum ((s.heap.push o).push { cls := .type "enumerate", data := .fields #[.none, .bool false, .ref s.heap.objs.size, rawInt 0, .none, .none] }) (s.heap.objs.size + 1) s.heap.objs.size 0 .none := by
    have := Heap.get?_push_size (s.heap.push o) (o := { cls := .type "enumerate", data := .fields #[.none, .bool false, .ref s.heap.objs.size, rawInt 0, .none, .none] }) rfl
    rw [hz] at this; exact this
  refine ⟨⟨_, he, rfl⟩, h _ he (Heap.get?_push_of_some _ (Heap.get?_push_size _ B.free)) (by rw [Heap.size_push, hz]) fun b o x => Heap.get?_push_of_some _ (Heap.get?_push_of_some _ x)⟩

/-- the tuple at a, each item in a new pair with its number -/
def IteT (K : PySem.W.Frag) (a : Addr) : It :=
  ⟨fun i H => ∃ (xs : List V) (x : V), SqT K H a xs ∧ xs[i]? = some x, fun i H v H' => ∃ T x, v = .ref T ∧ H T = none ∧ H' = upd H T (.tup [.int (i : Nat), x]) ∧ ∀ xs, SqT K H a xs → xs[i]? = some x, fun i H => ∃ xs : List V, SqT K H a xs ∧ xs.length ≤ i⟩
theorem apart_tupIter {h : Heap} {a it : Addr} {i : Nat} {its : Array Value} (ht : h.IsTuple a its) (hi : h.IsTupleIter it a i) : a ≠ it := by
  rintro rfl
  obtain ⟨o, ho, hc, _⟩ := ht
  obtain ⟨o', ho', hc', _⟩ := hi
  rw [ho] at ho'
  cases ho'
  rw [hc] at hc'
  exact absurd hc' (by decide)
theorem turn_enumT {P : Program} {w : World} {K : PySem.W.Frag} {elts : List Expr} {kk : Nat} {tpos : Pos} (a e it : Addr) :
    Turn P w K (.Tuple elts kk tpos) (IteT K a) [e, it] e (fun i h => (∃ old, IsEnum h e it ((i : Nat) : Int) old) ∧ h.IsTupleIter it a i ∧ e ≠ it) where
  mem := by simp
  obj := fun i h st b hb => by
    obtain ⟨⟨old, he⟩, ⟨o, ho, hc, hd⟩, _⟩ := st
    have e' : b = e ∨ b = it := by simpa using hb
    rcases e' with z | z
    · rw [z]; exact ⟨_, he, fun v q => nomatch q⟩
    · rw [z]; exact ⟨o, ho, fun v q => by rw [hd] at q; cases q⟩
  keep := fun i h h' st k => let ⟨⟨old, he⟩, hi, hne⟩ := st; ⟨⟨old, k e (by simp) _ he⟩, hi.at fun o q => k it (by simp) o q, hne⟩
  item := by
    intro X hP hw hK hc i pins s σ H E I hf st hg
    subst hP hw hK
    obtain ⟨⟨old, he⟩, hit, hne⟩ := st
    obtain ⟨xs, x, hq, hx⟩ := hg
    obtain ⟨its, rv, p, hz⟩ := I.tuple hq
    have p' : s.heap.IsTuple a its.toArray := p
    obtain ⟨u, hu, ru⟩ := rv.get hx
    have hai := apart_tupIter p' hit
    have hae : a ≠ e := by
      rintro rfl
      obtain ⟨o, ho, hc', _⟩ := p'
      rw [he] at ho
      cases ho
      exact absurd (show Value.type "enumerate" = Value.type "tuple" from hc') (by decide)
    have hel : e < s.heap.objs.size := Heap.lt_size he
    have hil : it < s.heap.objs.size := by obtain ⟨_, q, _⟩ := hit; exact Heap.lt_size q
    have hi : i < its.toArray.size := by
      have q := (List.getElem?_eq_some_iff.mp hu).1
      simpa using q
    refine wpAny_pyNext_enum_itemD (Draws.tuple (A := X.A.in1) (I.ok.hd hc) it a hai its.toArray) he ⟨hit, p'⟩ hi hne (by simp; exact ⟨hne, hae.symm⟩) fun y h' tk hP ho hs' hT hsz hk => ?_
    obtain ⟨hit', _⟩ := hs'
    have ey : y = u := by
      have hP' : its.toArray[i]? = some y := hP
      have hu' : its.toArray[i]? = some u := by simpa using hu
      rw [hu'] at hP'
      exact (Option.some.inj hP').symm
    subst ey
    refine ⟨_, rfl, wpAny_letOwnedTupleGo_enum (s := { s with heap := h', toks := tk + 1 }) ho fun h'' he' sb => ?_⟩
    have hT2 : h''.get? s.heap.objs.size = some { cls := .type "tuple", data := .seq #[.int i tk, y] } := (sb.2 _ (Nat.ne_of_gt hel)).trans hT
    have new : ObjOk X.prog X.w (upd H s.heap.objs.size (.tup [.int (i : Nat), x])) h'' s.heap.objs.size (.tup [.int (i : Nat), x]) :=
      ⟨by show 2 ≤ sizeLine; decide, [.int i tk, y], .cons ⟨_, rfl⟩ (.cons ru .nil), ⟨_, hT2, rfl, _, rfl⟩⟩
    have I1 : Inv X pins σ (upd H s.heap.objs.size (.tup [.int (i : Nat), x])) { s with heap := h'', toks := tk + 1 } :=
      I.turnedNew (ch := [e, it]) (fun b ob hb q => (sb.2 b (fun z => hb (by simp [z]))).trans (hk b ob (fun z => hb (by simp [z])) (fun z => hb (by simp [z])) q)) hf (Nat.le_refl _) new
    refine ⟨.ref s.heap.objs.size, _, I1, rfl, ⟨_, x, rfl, I.hok.fresh (Nat.le_refl _), rfl, fun ys hy => by rw [I.tuple_inj hy hq]; exact hx⟩, ⟨⟨y, ?_⟩, hit'.at fun o q => (sb.2 it (Ne.symm hne)).trans q, hne⟩, fun b hb => ?_⟩
    · have e1 : ((i + 1 : Nat) : Int) = (i : Int) + 1 := by omega
      rw [e1]; exact he'
    · have hb' : b < s.heap.objs.size := by
        have e' : b = e ∨ b = it := by simpa using hb
        rcases e' with z | z
        · rw [z]; exact hel
        · rw [z]; exact hil
      rw [upd_ne (Nat.ne_of_lt hb')]
      exact (hf b hb).1
  done := by
    intro X hP hw hK hc i pins s σ H E I hf st hg
    subst hP hw hK
    obtain ⟨⟨old, he⟩, hit, hne⟩ := st
    obtain ⟨xs, hq, hx⟩ := hg
    obtain ⟨its, rv, p, hz⟩ := I.tuple hq
    have p' : s.heap.IsTuple a its.toArray := p
    obtain ⟨f0, f1, f2, f3, f4, f5⟩ := hf it (by simp)
    have hl := rv.length
    have hT : s.TypeIs (.ref e) "enumerate" := ⟨_, he, rfl⟩
    unfold pyNext
    refine wpAny_bind (wpAny_attempt (wpAny_callSpecial?_slot (name := Str.ofString "__next__") hT F.slot_enumerate_next
      (wpAny_call_entry F.slot_enumerate_next hT F.entry_enumerate_next ?_ (F.args_enumerate_next_1 _))))
    show wpAny _ _ (field (.ref e) 2 >>= _) _ _ _
    refine wpAny_bind (wpAny_field he rfl (x := .ref it) rfl ?_)
    refine wpAny_bind (RZ.nextOf_tuple_end (I.ok.hd hc) hit p' (by simp; omega) fun h' x he' hx' => ?_)
    obtain ⟨o, ho, hc⟩ := hx'
    refine wpAny_bind (wpAny_isInstance (T := "StopIteration") (b := true) ⟨o, ho, hc⟩ isSubtype_stop ?_)
    exact wpAny_pure ⟨rfl, I.turned (t' := s.toks) (fun b o hb q => he' b o hb q) f0 f1 f3 f4 f5⟩
  self := fun A i s Q E st h => let ⟨⟨_, he⟩, _⟩ := st; wpAny_pyIter_enum he h
def iEnumT (K : PySem.W.Frag) (ta : TA) : TI := fun σ H R => ta σ H fun vs H1 => ∃ a xs, vs = [.ref a] ∧ SqT K H1 a xs ∧ R (IteT K a) H1
theorem pi_enumT {X : Cx} {e : Expr} {ta : TA} {p pos tpos : Pos} {elts : List Expr} {kk : Nat} (hg : Gl X "enumerate") (hm : X.mg "enumerate" = none) (ha : PA X [e] ta) (hs : starEach [e] X.env = [(false, eval e X.env)] := by rfl) :
    PI X (.Tuple elts kk tpos) (.Call (.Name "enumerate" p) [e] [] pos) (iEnumT X.K ta) := by
  refine ⟨fun pins s σ H R I h => ?_⟩
  refine Call_ (ld_blt I hg hm boot_enumerate (PyProof.Rows.callWith_type1 (thn (ha.run pos pins s σ H _ I h) fun us s1 ⟨vs, H1, I1, r1, q1⟩ => ?_) hs rfl))
  obtain ⟨a, xs, ex, hq, q⟩ := q1
  subst ex
  cases r1 with
  | cons r rr =>
    cases rr
    cases r
    obtain ⟨its, rv, p', hz⟩ := I1.tuple hq
    have p'' : s1.heap.IsTuple a its.toArray := p'
    refine enum_beginsT (begins_tuple a its.toArray) p'' fun h' he hit hsz hk => wpAny_pyIter_enum he ?_
    have I2 : Inv X pins σ H1 { s1 with heap := h' } := I1.kept (t' := s1.toks) hk
    refine ⟨s1.heap.objs.size + 1, [s1.heap.objs.size + 1, s1.heap.objs.size], _, _, H1, rfl, I2, turn_enumT a (s1.heap.objs.size + 1) s1.heap.objs.size, ⟨⟨.none, he⟩, ⟨_, hit, rfl, rfl⟩, Nat.succ_ne_self _⟩, fun b hb => ?_, q⟩
    have e' : b = s1.heap.objs.size + 1 ∨ b = s1.heap.objs.size := by simpa using hb
    have hle : s1.heap.objs.size ≤ b := by
      rcases e' with z | z
      · rw [z]; exact Nat.le_add_right _ _
      · rw [z]; exact Nat.le_refl _
    exact I1.fpOk hle (I1.hok.fresh hle)
theorem walk_enumT {K : PySem.W.Frag} {a : Addr} {xs : List V} : Walk (IteT K a) xs.length (fun H => SqT K H a xs) (YPair (fun i => some (.int (i : Nat))) (fun i => xs[i]?)) := by
  refine ⟨fun i _ hi q => ⟨xs, xs[i], q, by simp [hi]⟩, fun _ q => ⟨xs, q, Nat.le_refl _⟩, fun i H v H' _ q y => ?_⟩
  obtain ⟨T, x, h1, h2, h3, h4⟩ := y
  exact ⟨T, .int (i : Nat), x, h1, h2, h3, rfl, h4 xs q⟩

/-! f(k = v, ..): keywords alone -/
section
variable {X : Cx} {CX : CXT} {k : Nat} {f : Addr} {fd : FuncData} {ps ks : List Str} {sp : Sp} {x : Str} {kws : List Keyword} {tk : TA} {E : XK} {p pos : Pos} {g : List Value → List Value → List Value} {gV : List V → List V → List V}
theorem pe_callK0 (F : FnOk X.prog X.w X.K X.mg X.base CX k f fd ps sp) (hr : Room k X.A) (hg : Gl X x) (hm : X.mg x = some (.ref f)) (hk : PySem.W.keepIn X.K (.ref f) = true) (hb : KBinds X.K fd ps ks g gV) (hx : Passes CX X E)
    (hkw : PK X kws tk) (hall : (backToKw pos (keywordEach kws X.env)).all (·.1.isSome) = true := by rfl) (hks : (backToKw pos (keywordEach kws X.env)).filterMap (·.1) = ks := by rfl)
    (hdb : (x == ("__debug__" : Str)) = false := by decide)
    (hpl : ((backTo pos (starEach [] X.env)).any (·.1) || (backToKw pos (keywordEach kws X.env)).any (·.1.isNone)) = false := by rfl) :
    PE X (.Call (.Name x p) [] kws pos) (tCallK sp gV E tNil tk) := by
  refine ⟨fun pins s σ H Q I h => ?_⟩
  refine wpAny_Call_Name_kw (ld_glob I hg hm ?_ hdb)
  refine PySem.W.callWith_KW0 (h₀ := X.base) I.ok.mod.kin hk hall ?_ hpl
  refine thn (hkw.run pos pins s σ H _ I h) fun ws s2 ⟨zs, H2, I2, rz, q2⟩ => ⟨I2.kIn, ?_⟩
  rw [hks]
  exact run_fnk (us := []) (vs := []) F hr hb hx I2 .nil rz q2
end

/-! heaps -/
theorem Same.new {H H' : Hp} {p : Addr} {o : HO} (s : Same H H') (h : H p = none) : Same H (upd H' p o) := fun b u e => by
  rw [upd_ne (ne_of_none e h)]
  exact s b u e
theorem Same.new' {H H' : Hp} {p : Addr} {o : HO} (s : Same H H') (h : H' p = none) : Same H (upd H' p o) := Same.new s (s.free h)
theorem Same.tup {K : PySem.W.Frag} {H H' : Hp} {a : Addr} {xs : List V} (e : Same H H') (h : SqT K H a xs) : SqT K H' a xs := by
  rcases h with (h | ⟨o, h⟩) | h
  · exact .inl (.inl (e _ _ h))
  · exact .inl (.inr ⟨o, e _ _ h⟩)
  · exact .inr h
/-- all but the object at s is as it was -/
def Kp (s : Addr) (H H' : Hp) : Prop := ∀ b o, b ≠ s → H b = some o → H' b = some o
theorem Kp.refl (s : Addr) (H : Hp) : Kp s H H := fun _ _ _ h => h
theorem Kp.trans {s : Addr} {H H1 H2 : Hp} (a : Kp s H H1) (b : Kp s H1 H2) : Kp s H H2 := fun c o n h => b c o n (a c o n h)
theorem Kp.of {s : Addr} {H H' : Hp} (a : Same H H') : Kp s H H' := fun c o _ h => a c o h
theorem Kp.set {s : Addr} {H H' : Hp} {o : HO} (a : Kp s H H') : Kp s H (upd H' s o) := fun c u n h => by rw [upd_ne n]; exact a c u n h
theorem Kp.new {s p : Addr} {H H' : Hp} {o : HO} (a : Kp s H H') (n : H p = none) : Kp s H (upd H' p o) := fun c u nc h => by
  rw [upd_ne (ne_of_none h n)]; exact a c u nc h
theorem Kp.free {s p : Addr} {H H' : Hp} (a : Kp s H H') (ns : p ≠ s) (n : H' p = none) : H p = none := by
  cases q : H p with
  | none => rfl
  | some o => rw [a p o ns q] at n; cases n
theorem flat_ints (l : List Int) : (l.map V.int).all flatV = true := by
  induction l with
  | nil => rfl
  | cons a r ih => rw [List.map_cons, List.all_cons, ih]; rfl
theorem flat_strs (l : List Str) : (l.map V.str).all flatV = true := by
  induction l with
  | nil => rfl
  | cons a r ih => rw [List.map_cons, List.all_cons, ih]; rfl
theorem inV_ints (i : Int) (l : List Int) : inV (.int i) (l.map V.int) = l.contains i := by
  induction l with
  | nil => rfl
  | cons a r ih =>
    unfold inV at ih
    unfold inV
    rw [List.map_cons, List.any_cons, ih, List.contains_cons]
    congr 1
    show decide (a = i) = (i == a)
    by_cases h : a = i
    · subst h; simp
    · rw [decide_eq_false h]
      exact (beq_eq_false_iff_ne.mpr (fun q => h q.symm)).symm
/-! evaluation without effect -/
section
open Evl
variable {K : PySem.W.Frag} {H : Hp} {σ : L2.St} {t : TT} {te tl : TE}
theorem el_lcT {a : Addr} {xs : List V} {j : Nat} {vs : List Nat} (f : Nat → Bool) (v : Nat → V) (h : Ev tl σ H (.ref a)) (hx : SqT K H a xs) (hz : xs.length ≤ 40000) (hw : ∀ x, wipe ((wipe σ vs).set j (some x)) vs = wipe σ vs)
    (ht : ∀ (i : Nat) (x : V) H1, Ex H H1 → xs[i]? = some x → EvT t ((wipe σ vs).set j (some x)) H1 (f i)) (he : ∀ (i : Nat) (x : V) H1, Ex H H1 → xs[i]? = some x → f i = true → Ev te ((wipe σ vs).set j (some x)) H1 (v i)) :
    EvL (tLc (iTup K tl) (gName j) t te vs) σ H (given xs.length f v) := fun H0 e Q q => h H0 e _ fun H1 e1 => ⟨a, rfl, ⟨xs, ex_t (e.trans e1) hx⟩, fun Dl hD =>
  lc_tup (xs := xs) (Cw H1 f v Dl) ⟨hD, Ex.new hD, upd_same⟩ (fun i H' _ p => ex_t ((e.trans e1).trans p.2.1) hx) (fun i x H' hi p => ⟨hw x, cw_turn p (by have := (List.getElem?_eq_some_iff.mp hi).1; omega) (ht i x H1 (e.trans e1) hi) (fun hf => he i x H1 (e.trans e1) hi hf)⟩)
    (fun H' p => q Dl H' (fresh_back e1 p.1) (e1.trans p.2.1) p.2.2)⟩
theorem rv_isN {x : V} : RV (fun x y H Q => y = V.non ∧ Q (.bl (decide (x = V.non))) H) x .non H (.bl (decide (x = .non))) := fun H1 _ _ q => ⟨rfl, q H1 (Ex.refl H1)⟩
theorem rv_notN {x : V} : RV (fun x y H Q => y = V.non ∧ Q (.bl (!decide (x = V.non))) H) x .non H (.bl (!decide (x = .non))) := fun H1 _ _ q => ⟨rfl, q H1 (Ex.refl H1)⟩
theorem rc_isi {x c : V} {t u : Value} {b : Bool} (k : ClsV c u) (ty : ∀ H1, Ex H H1 → TyX K H1 x t) (e : PySem.W.kitOne K t u = some b) : RC (rIsi K) [x, c] H (.bl b) := fun H1 e1 _ q => ⟨x, c, t, u, b, rfl, k, ty H1 e1, e, q H1 (Ex.refl H1)⟩
theorem ty_tup {a : Addr} {xs : List V} (h : H a = some (.tup xs)) : ∀ H1, Ex H H1 → TyX K H1 (.ref a) (.type "tuple") := fun H1 e => .base (.tup (e _ _ h))
theorem ty_lst {a : Addr} {xs : List V} (h : H a = some (.lst xs)) : ∀ H1, Ex H H1 → TyX K H1 (.ref a) (.type "list") := fun H1 e => .base (.lst (e _ _ h))
theorem ty_bl {b : Bool} : ∀ H1, Ex H H1 → TyX K H1 (.bl b) (.type "bool") := fun H1 e => .base (.bl b)
theorem ty_int {i : Int} : ∀ H1, Ex H H1 → TyX K H1 (.int i) (.type "int") := fun H1 e => .base (.int i)
theorem ty_str {x : Str} : ∀ H1, Ex H H1 → TyX K H1 (.str x) (.type "str") := fun H1 e => .base (.str x)
theorem ty_non : ∀ H1, Ex H H1 → TyX K H1 .non (.type "NoneType") := fun H1 e => .base .non
theorem rc_lenL {p : Addr} {xs : List V} (h : SqL K H p xs) : RC (fun xs H Q => ∃ p ys, xs = [V.ref p] ∧ (SqL K H p ys ∨ SqT K H p ys) ∧ Q (.int ys.length) H) [.ref p] H (.int (xs.length : Int)) := fun H1 e _ q => ⟨p, xs, rfl, .inl (ex_l e h), q H1 (Ex.refl H1)⟩
theorem rc_lenT {p : Addr} {xs : List V} (h : SqT K H p xs) : RC (fun xs H Q => ∃ p ys, xs = [V.ref p] ∧ (SqL K H p ys ∨ SqT K H p ys) ∧ Q (.int ys.length) H) [.ref p] H (.int (xs.length : Int)) := fun H1 e _ q => ⟨p, xs, rfl, .inr (ex_t e h), q H1 (Ex.refl H1)⟩
theorem rv_eqD {x y : V} {d e : PyData} (h1 : ∀ H1, Ex H H1 → Dp K H1 x d) (h2 : ∀ H1, Ex H H1 → Dp K H1 y e) (s1 : SeqAt.shaped d = true) (s2 : SeqAt.shaped e = true) : RV (rEqD K) x y H (.bl (PyData.eqv d e)) :=
  fun H1 e1 _ q => ⟨d, e, h1 H1 e1, h2 H1 e1, s1, s2, q H1 (Ex.refl H1)⟩
theorem rv_neD {x y : V} {d e : PyData} (h1 : ∀ H1, Ex H H1 → Dp K H1 x d) (h2 : ∀ H1, Ex H H1 → Dp K H1 y e) (s1 : SeqAt.shaped d = true) (s2 : SeqAt.shaped e = true) : RV (rNeD K) x y H (.bl (!PyData.eqv d e)) :=
  fun H1 e1 _ q => ⟨d, e, h1 H1 e1, h2 H1 e1, s1, s2, q H1 (Ex.refl H1)⟩
theorem dp_bls : ∀ l : List Bool, DpAll K H (l.map V.bl) (l.map PyData.bool)
  | [] => .nil
  | b :: r => .cons (.bl b) (dp_bls r)
theorem dp_ints : ∀ l : List Int, DpAll K H (l.map V.int) (l.map PyData.int)
  | [] => .nil
  | b :: r => .cons (.int b) (dp_ints r)
theorem dp_strs : ∀ l : List Str, DpAll K H (l.map V.str) (l.map PyData.str)
  | [] => .nil
  | b :: r => .cons (.str b) (dp_strs r)
theorem dp_tupB {a : Addr} {l : List Bool} (h : H a = some (.tup (l.map V.bl))) : ∀ H1, Ex H H1 → Dp K H1 (.ref a) (.tuple (l.map PyData.bool)) := fun H1 e => .tup (SqT.of (e _ _ h)) (dp_bls l)
theorem dp_nil {a : Addr} (h : H a = some (.lst [])) : ∀ H1, Ex H H1 → Dp K H1 (.ref a) (.list []) := fun H1 e => .lst (SqL.of (e _ _ h)) .nil
end
/-! shapes of data -/
def Shp (n : Nat) (d : PyData) : Prop := d.canLay0 = true ∧ d.depth ≤ n
theorem shp_all {n : Nat} : ∀ {ds : List PyData}, (∀ d ∈ ds, Shp n d) → PyData.canLayAll0 ds = true ∧ PyData.depthAll ds ≤ n
  | [], _ => ⟨rfl, Nat.zero_le _⟩
  | d :: r, h => by
    obtain ⟨h1, h2⟩ := shp_all (ds := r) fun x hx => h x (List.mem_cons_of_mem _ hx)
    obtain ⟨g1, g2⟩ := h d (List.mem_cons_self ..)
    refine ⟨by simp only [PyData.canLayAll0, g1, h1, Bool.and_self], ?_⟩
    simp only [PyData.depthAll]
    omega
theorem shp_tup {n : Nat} {ds : List PyData} (h : ∀ d ∈ ds, Shp n d) : Shp (n + 1) (.tuple ds) := by
  obtain ⟨h1, h2⟩ := shp_all h
  exact ⟨by simpa only [PyData.canLay0] using h1, by simp only [PyData.depth]; omega⟩
theorem shp_lst {n : Nat} {ds : List PyData} (h : ∀ d ∈ ds, Shp n d) : Shp (n + 1) (.list ds) := by
  obtain ⟨h1, h2⟩ := shp_all h
  exact ⟨by simpa only [PyData.canLay0] using h1, by simp only [PyData.depth]; omega⟩
theorem shp_bl {n : Nat} {b : Bool} : Shp n (.bool b) := ⟨by simp only [PyData.canLay0], by simp only [PyData.depth]; omega⟩
theorem shp_int {n : Nat} {b : Int} : Shp n (.int b) := ⟨by simp only [PyData.canLay0], by simp only [PyData.depth]; omega⟩
theorem shp_non {n : Nat} : Shp n .none := ⟨by simp only [PyData.canLay0], by simp only [PyData.depth]; omega⟩
theorem Shp.ok {n : Nat} {d : PyData} (h : Shp n d) (hn : n ≤ 64 := by decide) : SeqAt.shaped d = true := by
  unfold SeqAt.shaped
  rw [h.1, decide_eq_true (Nat.le_trans h.2 hn)]
  rfl
theorem Shp.same {n : Nat} {d : PyData} (h : Shp n d) : PyData.eqv d d = true := SeqAt.eqv_refl d h.1
theorem shp_bls (l : List Bool) : Shp 1 (.tuple (l.map PyData.bool)) := shp_tup fun d hd => by
  obtain ⟨b, _, rfl⟩ := List.mem_map.mp hd
  exact shp_bl
/-! the rules with K apart (for blocks of comprehensions) -/
section
variable {X : Cx}
theorem kk_isi {K : PySem.W.Frag} (h : X.K = K := by rfl) : CallR X (.builtin "isinstance") (rIsi K) := h ▸ call_isi
theorem kk_in {K : PySem.W.Frag} (h : X.K = K := by rfl) : OpR X (compareOp .In) (rIn K false) := h ▸ op_in_seq
theorem kk_notin {K : PySem.W.Frag} (h : X.K = K := by rfl) : OpR X (compareOp .NotIn) (rIn K true) := h ▸ op_notIn_seq
theorem kk_ixL {K : PySem.W.Frag} (h : X.K = K := by rfl) : IxR X (rIxL K) := h ▸ ix_list
theorem kk_ixT {K : PySem.W.Frag} (h : X.K = K := by rfl) : IxR X (rIxT K) := h ▸ ix_tup
theorem kk_eqD {K : PySem.W.Frag} (hu : X.A.units + 64 < cLine) (h : X.K = K := by rfl) : OpR X (compareOp .Eq) (rEqD K) := h ▸ op_eqD hu
theorem kk_neD {K : PySem.W.Frag} (hu : X.A.units + 64 < cLine) (h : X.K = K := by rfl) : OpR X (compareOp .NotEq) (rNeD K) := h ▸ op_neD hu
end
/-! keyword-only defaults alone, some of them written -/
theorem kbinds0 {K : PySem.W.Frag} {x qual : Str} {params : Arguments} {body : List Stmt} {scope : Scope} {kws : List (Str × V)} {f : Addr} {fd : FuncData} {ps : List Str} (F : FunD K x qual params body scope [] kws f fd) (n : Nat) (ks : List Str) (ms : List (Str × V)) (g : {α : Type} → List α → List α → List α → List α) (hk : kws ≠ []) (hms : ∀ q ∈ ms, q ∈ kws)
    (hrel : ∀ {vs mz zs : List V} {us mv ws : List Value}, Vals vs us → Vals mz mv → Vals zs ws → Vals (g vs mz zs) (g us mv ws))
    (h : ∀ (D : Addr) (doc pm : Value) (an : Option Addr) (cdv ct : Value) (us mv ws : List Value), us.length = n → mv.length = ms.length → ws.length = ks.length →
      KwChain D ((ms.map (·.1)).zip mv) (bindArgs (PySem.W.fnOf x qual params body scope .none (.ref D) doc pm an cdv ct) ⟨us, ks.zip ws⟩) (ps.zip (g us mv ws))) :
    ∃ mv : List Value, KBn K fd ps n ks (fun us ws => g us mv ws) (fun vs zs => g vs (ms.map (·.2)) zs) := by
  obtain ⟨oc, od, dV, kV, doc, pm, an, cdv, ct, osl, rfl, lk, hcd, hD, hK⟩ := F.ex
  rcases hD with ⟨_, rfl⟩ | ⟨e, _⟩
  · rcases hK with e | ⟨D, rfl, hq⟩
    · exact absurd e hk
    · obtain ⟨mv, hl, rk, hks⟩ := kwd_vals (ms := ms) fun q hm => hq q (hms q hm)
      refine ⟨mv, ⟨fun s us ws X l1 l2 => ?_, fun r1 r2 => hrel r1 rk r2⟩⟩
      exact BindsTo.of_looks fun M => KwChain.looks X hks (h D doc pm an cdv ct us mv ws l1 hl l2)
  · exact absurd rfl e
theorem okD {P : Program} {w : World} {K : PySem.W.Frag} {mg : Str → Option Value} {base : Heap} {x qual : Str} {params : Arguments} {body : List Stmt} {scope : Scope} {dvs : List V} {kws : List (Str × V)} {f : Addr} {fd : FuncData} {N ps : List Str} {k : Nat} {sp : Sp} (F : FunD K x qual params body scope dvs kws f fd) (S : FnScope N ps scope) (len : ∀ vs H Q E, sp vs H Q E → vs.length = ps.length)
    (hbody : ∀ (cdv : Value) (A : Around) (outer : List Env) (s : Shared) (H : Hp) (vs : List V) (Q : VK) (E : XK), Room k (A.deeper (envOfC qual scope s.heap.objs.size f cdv)) → sp vs H Q E →
      ∃ t, PSs (cxOf CX0 P w K mg base N qual scope f cdv A outer s H E).nox body t ∧ t { nx := fun _ H' => Q .non H', rt := Q } (start N vs) H) : FnOk P w K mg base CX0 (k + 1) f fd ps sp :=
  F.ok S len fun cdv A outer s H vs Q E hr h => let ⟨t, h1, h2⟩ := hbody cdv A outer s H vs Q E hr h; ⟨t, h1.nox, h2⟩
section
open Evl
theorem q_par {i j : Nat} {ta : TA} {tz : TS} {D : Ends} {σ : L2.St} {H : Hp} {v w : V} (h : EvA ta σ H [v, w]) (k : ∀ H1, Ex H H1 → tz D ((σ.set i (some v)).set j (some w)) H1) : tSeq (tPar i j ta) tz D σ H :=
  h H (Ex.refl H) _ fun H1 e => ⟨v, w, rfl, k H1 e⟩
theorem q_par3 {i j l : Nat} {ta : TA} {tz : TS} {D : Ends} {σ : L2.St} {H : Hp} {v w u : V} (h : EvA ta σ H [v, w, u]) (k : ∀ H1, Ex H H1 → tz D (((σ.set i (some v)).set j (some w)).set l (some u)) H1) : tSeq (tPar3 i j l ta) tz D σ H :=
  h H (Ex.refl H) _ fun H1 e => ⟨v, w, u, rfl, k H1 e⟩
end
end Way

/-! own == with either answer; in, not in, == of tuples over it; own in, len, operators -/
namespace Way
open PySem PySem.Spec PyProof.Rows L2
open AutoSeq1 (wpAny_loadPart')
open MeetsSeq MeetsSeq2 MeetsSeq3 SeqRoads2
section
variable {prog : Program} {w : World} {A : Around} {R : Result → Shared → Prop}
def ListC (prog : Program) (w : World) (A : Around) (E : Value → Shared → Prop) (l : Addr) (x : Value) (N : Nat) (e : Nat → Bool) (I : Shared → Prop) : Prop :=
  ∀ s, I s → ∃ (items : Array Value) (n : Nat), s.heap.get? l = some { cls := .type "list", data := .seq items n } ∧ items.size = N ∧
    ∀ i (h1 : i < items.size), wpAny (model prog w) A.in1 (eqBool items[i] x) (fun r s' => r = e i ∧ I s') E s
theorem contains_loopB (l : Addr) (x : Value) (N : Nat) (e : Nat → Bool) (b : Bool) (I : Shared → Prop) (hl : ListC prog w A (fun e s' => R (.error e) s') l x N e I)
    (hb : b = (List.range N).any e) (fin : ∀ s, I s → R (.ok (.ret (.bool b))) s) (k : Nat) :
    ∀ i : Nat, N - i = k → i ≤ N → (∀ j < i, e j = false) → ∀ s, I s →
      wpAny (model prog w) A.in1 (Builtin.«list.__contains__.loop» ⟨[.ref l, x, rawInt i], []⟩) (GQ.FinOf prog w A R) (fun e s' => R (.error e) s') s := by
  induction k with
  | zero =>
    intro i hk hi hf s h
    obtain ⟨items, n, hl1, hs1, _⟩ := hl _ h
    have hi' : i = N := by omega
    have hb' : b = false := by
      rw [hb, List.any_eq_false]
      intro j hj
      rw [hf j (by rw [hi']; exact List.mem_range.mp hj)]
      exact Bool.false_ne_true
    have hR := fin s h
    rw [hb'] at hR
    obtain ⟨hp, g, d, tk, os⟩ := s
    wp_walk using wpAny_loadPart' hl1
    have hi1 : items[((i : Nat) : Int).toNat]? = none := by simp; omega
    rw [hi1]
    wp_walk
    exact hR
  | succ k ih =>
    intro i hk hi hf s h
    obtain ⟨items, n, hl1, hs1, turn⟩ := hl _ h
    have hlt : i < items.size := by omega
    have ht := turn i hlt
    obtain ⟨hp, g, d, tk, os⟩ := s
    wp_walk using wpAny_loadPart' hl1
    have hi1 : items[((i : Nat) : Int).toNat]? = some items[i] := by simp [hlt]
    have hc : ((i : Int) + 1) = ((i + 1 : Nat) : Int) := by omega
    rw [hi1]
    refine wpAny_bind (wpAny_mono ht (fun r s2 h2 => ?_) fun _ _ x => x)
    obtain ⟨hr, h2⟩ := h2
    subst hr
    cases hb' : e i with
    | true =>
      have hbt : b = true := by
        rw [hb, List.any_eq_true]
        exact ⟨i, List.mem_range.mpr (by omega), hb'⟩
      have hR := fin s2 h2
      rw [hbt] at hR
      obtain ⟨hp2, g2, d2, tk2, os2⟩ := s2
      wp_walk
      exact hR
    | false =>
      have hrec := ih (i + 1) (by omega) (by omega) (fun j hj => by
        rcases Nat.lt_or_ge j i with q | q
        · exact hf j q
        · have : j = i := by omega
          rw [this]; exact hb') s2 h2
      obtain ⟨hp2, g2, d2, tk2, os2⟩ := s2
      wp_walk
      rw [hc]
      exact ⟨plainId_quiet plain_contains_loop _, codeAny_builtin entry_contains_loop (by
        rw [Around.under_plainId plain_contains_loop _]
        exact hrec)⟩
theorem list_containsB (l : Addr) (x : Value) (N : Nat) (e : Nat → Bool) (b : Bool) (I : Shared → Prop) (hl : ListC prog w A (fun e s' => R (.error e) s') l x N e I)
    (hb : b = (List.range N).any e) (fin : ∀ s, I s → R (.ok (.ret (.bool b))) s) {s : Shared} (h : I s) :
    wpAny (model prog w) A.in1 (Builtin.«list.__contains__» ⟨[.ref l, x], []⟩) (GQ.FinOf prog w A R) (fun e s' => R (.error e) s') s := by
  obtain ⟨items, n, hl1, hs1, _⟩ := hl _ h
  have hrec := contains_loopB (A := A) (R := R) l x N e b I hl hb fin _ 0 rfl (Nat.zero_le _) (fun j hj => absurd hj (Nat.not_lt_zero _)) s h
  obtain ⟨hp, g, d, tk, os⟩ := s
  wp_walk using wpAny_loadPart' hl1
  exact ⟨plainId_quiet plain_contains_loop _, codeAny_builtin entry_contains_loop (by
    rw [Around.under_plainId plain_contains_loop _]
    exact hrec)⟩
theorem in_listB {E : Value → Shared → Prop} {l : Addr} {x : Value} {N : Nat} {e : Nat → Bool} {I : Shared → Prop} {Q : Value → Shared → Prop} (hl : ListC prog w A E l x N e I) {s : Shared} (h : I s)
    (fin : ∀ s, I s → Q (.bool ((List.range N).any e)) s) : wpAny (model prog w) A (compareOp .In x (.ref l)) Q E s := by
  obtain ⟨items, n, hl1, hs1, _⟩ := hl _ h
  have hT : s.TypeIs (.ref l) "list" := ⟨_, hl1, rfl⟩
  show wpAny _ A (do return .bool (← contains (.ref l) x)) Q E s
  refine wpAny_bind (wpAny_contains_slot hT F.slot_list_contains (wpAny_mono (GQ.call_here (Q := fun v s' => ∃ b, v = .bool b ∧ Q (.bool b) s') F.slot_list_contains hT F.entry_list_contains (F.args_list_contains_2 _ _) (list_containsB l x N e _ I hl rfl (fun s' hs' => ⟨_, rfl, fin s' hs'⟩) h)) (fun v s' hv => ?_) fun _ _ e => e))
  obtain ⟨b, rfl, hq⟩ := hv
  exact wpAny_truthy_bool (wpAny_pure hq)
theorem notIn_listB {E : Value → Shared → Prop} {l : Addr} {x : Value} {N : Nat} {e : Nat → Bool} {I : Shared → Prop} {Q : Value → Shared → Prop} (hl : ListC prog w A E l x N e I) {s : Shared} (h : I s)
    (fin : ∀ s, I s → Q (.bool (!(List.range N).any e)) s) : wpAny (model prog w) A (compareOp .NotIn x (.ref l)) Q E s := by
  obtain ⟨items, n, hl1, hs1, _⟩ := hl _ h
  have hT : s.TypeIs (.ref l) "list" := ⟨_, hl1, rfl⟩
  show wpAny _ A (do return .bool (!(← contains (.ref l) x))) Q E s
  refine wpAny_bind (wpAny_contains_slot hT F.slot_list_contains (wpAny_mono (GQ.call_here (Q := fun v s' => ∃ b, v = .bool b ∧ Q (.bool (!b)) s') F.slot_list_contains hT F.entry_list_contains (F.args_list_contains_2 _ _) (list_containsB l x N e _ I hl rfl (fun s' hs' => ⟨_, rfl, fin s' hs'⟩) h)) (fun v s' hv => ?_) fun _ _ e => e))
  obtain ⟨b, rfl, hq⟩ := hv
  exact wpAny_truthy_bool (wpAny_pure hq)
end
/-! == of two tuples, item by item, either answer -/
section
variable {prog : Program} {w : World} {A : Around} {R : Result → Shared → Prop}
theorem tuple_eqB (l b : Addr) (items items2 : Array Value) (n n2 : Nat) (dd dd2 : Option Addr) (sl sl2 : Array (Option Value)) (e : Nat → Bool) (I : Shared → Prop)
    (turn : ∀ i (h1 : i < items.size) (h2 : i < items2.size) s, I s → wpAny (model prog w) A.in1 (eqBool items[i] items2[i]) (fun r s' => r = e i ∧ I s') (fun e s' => R (.error e) s') s)
    (fin : ∀ s, I s → R (.ok (.ret (.bool ((List.range (min items.size items2.size)).all e && items.size == items2.size)))) s) {s : Shared} (hl1 : s.heap.get? l = some { cls := .type "tuple", dict := dd, data := .seq items n, slots := sl }) (hb1 : s.heap.get? b = some { cls := .type "tuple", dict := dd2, data := .seq items2 n2, slots := sl2 }) (h : I s) :
    wpAny (model prog w) A.in1 (Builtin.«tuple.__eq__» ⟨[.ref l, .ref b], []⟩) (GQ.FinOf prog w A R) (fun e s' => R (.error e) s') s := by
  have f2 := AutoSeq1.sub_tuple_tuple
  have hZ : (items.toList.zip items2.toList).length = min items.size items2.size := by simp
  have h0 := h
  obtain ⟨hp, g, d, tk, os⟩ := s
  wp_walk using wpAny_loadPart' hl1, wpAny_loadPart' hb1, wpAny_forIn_list _ (fun rest b s' => b.1 = none ∧ ∃ i, rest = (items.toList.zip items2.toList).drop i ∧ i ≤ min items.size items2.size ∧ (∀ j < i, e j = true) ∧ I s') _
  case turn =>
    rintro ⟨y, x⟩ rest b s' ⟨hb', i, hz, hi, hf, hI⟩
    have hlt : i < (items.toList.zip items2.toList).length := by
      rcases Nat.lt_or_ge i (items.toList.zip items2.toList).length with h' | h'
      · exact h'
      · rw [List.drop_of_length_le h'] at hz; cases hz
    have h1 : i < items.size := by omega
    have h2 : i < items2.size := by omega
    rw [List.drop_eq_getElem_cons hlt] at hz
    injection hz with hyx hrest
    have hy : y = items[i] := by have := congrArg Prod.fst hyx; simpa using this
    have hx : x = items2[i] := by have := congrArg Prod.snd hyx; simpa using this
    subst hy hx
    refine wpAny_bind (wpAny_mono (turn i h1 h2 s' hI) (fun r s2 q2 => ?_) fun _ _ x => x)
    obtain ⟨hr, q2⟩ := q2
    subst hr
    cases hq : e i with
    | true =>
      wp_walk
      refine ⟨rfl, i + 1, hrest, by omega, fun j hj => ?_, q2⟩
      rcases Nat.lt_or_ge j i with q | q
      · exact hf j q
      · have : j = i := by omega
        rw [this]; exact hq
    | false =>
      have hR := fin s2 q2
      have hn : (List.range (min items.size items2.size)).all e = false := by
        rw [List.all_eq_false]
        exact ⟨i, List.mem_range.mpr (by omega), by rw [hq]; exact Bool.false_ne_true⟩
      rw [hn] at hR
      wp_walk
      simpa using hR
  case fin =>
    rintro ⟨b1, b2⟩ s' ⟨hb', i, hz, hi, hf, hI⟩
    simp only at hb'
    subst hb'
    have hge : min items.size items2.size ≤ i := by
      rcases Nat.lt_or_ge i (items.toList.zip items2.toList).length with h' | h'
      · rw [List.drop_eq_getElem_cons h'] at hz; cases hz
      · exact hZ ▸ h'
    have hR := fin s' hI
    have hn : (List.range (min items.size items2.size)).all e = true := by
      rw [List.all_eq_true]
      exact fun j hj => hf j (by have := List.mem_range.mp hj; omega)
    rw [hn] at hR
    wp_walk
    simpa [Builtin.Tuple.tupleCompareSizes] using hR
  case h =>
    exact ⟨rfl, 0, rfl, Nat.zero_le _, fun j hj => absurd hj (Nat.not_lt_zero _), h0⟩
theorem rc_tupB {E : Value → Shared → Prop} {l b : Addr} {items items2 : Array Value} {e : Nat → Bool} {Q : Value → Shared → Prop} (hu : A.units < cLine) (I : Shared → Prop) {s : Shared}
    (hl : s.heap.IsTuple l items) (hb : s.heap.IsTuple b items2)
    (turn : ∀ i (h1 : i < items.size) (h2 : i < items2.size) s, I s → wpAny (model prog w) A.in1 (eqBool items[i] items2[i]) (fun r s' => r = e i ∧ I s') E s)
    (fin : ∀ s, I s → Q (.bool ((List.range (min items.size items2.size)).all e && items.size == items2.size)) s) (h : I s) : wpAny (model prog w) A (richCompare .Eq (.ref l) (.ref b)) Q E s := by
  obtain ⟨⟨cls, dd, data, sl⟩, ho, hc, n, hd⟩ := id hl
  obtain ⟨⟨cls2, dd2, data2, sl2⟩, ho2, hc2, n2, hd2⟩ := id hb
  simp only at hc hd hc2 hd2
  subst hc hd hc2 hd2
  refine wpAny_richCompare_same_room (op := .Eq) ⟨_, ho, rfl⟩ ⟨_, ho2, rfl⟩ F.slot_tuple_eq (GQ.call_here F.slot_tuple_eq ⟨_, ho, rfl⟩ F.entry_tuple_eq (F.args_tuple_eq_2 _ _) ?_) hu
  exact tuple_eqB (R := wants (fun v s' => v ≠ .notImplemented ∧ Q v s') E) l b items items2 n n2 dd dd2 sl sl2 e I turn (fun s' q => ⟨(fun x => nomatch x), fin s' q⟩) ho ho2 h
end

/-! the answers of == as a relation -/
abbrev EqvB := V → V → Hp → Bool → Prop
def MonB (D : EqvB) : Prop := ∀ x y H H' b, Ext H H' → D x y H b → D x y H' b
def EqB (X : Cx) (n : Nat) (D : EqvB) : Prop :=
  ∀ (A : Around) (pins : List (Addr × Obj)) (s : Shared) (σ : L2.St) (H : Hp) (x y : V) (u v : Value) (b : Bool), Sub X n A → Inv X pins σ H s → RelV x u → RelV y v → D x y H b →
    wpAny (model X.prog X.w) A (eqBool u v) (fun r s' => r = b ∧ LoopI X pins σ H s') X.xe s
def RcB (X : Cx) (n : Nat) (D : EqvB) : Prop :=
  ∀ (A : Around) (pins : List (Addr × Obj)) (s : Shared) (σ : L2.St) (H : Hp) (x y : V) (u v : Value) (b : Bool), Sub X n A → Inv X pins σ H s → RelV x u → RelV y v → D x y H b →
    wpAny (model X.prog X.w) A (richCompare .Eq u v) (fun r s' => r = .bool b ∧ LoopI X pins σ H s') X.xe s
/-- an own ==: the promise -/
def spEqB (R : Addr → V → Hp → Bool → Prop) : Sp := fun vs H Q _ => ∃ a y b, vs = [.ref a, y] ∧ R a y H b ∧ ∀ H', Ext H H' → Q (.bl b) H'
/-- x an instance of C, y a value of a type that does not go first -/
def DOwn (K : PySem.W.Frag) (C : Addr) (R : Addr → V → Hp → Bool → Prop) : EqvB := fun x y H b => ∃ a dx fs t, x = .ref a ∧ H a = some (.ins C dx fs) ∧ TyX K H y t ∧ PySem.W.notFirst K C t = true ∧ R a y H b
section
variable {X : Cx} {n m : Nat} {D : EqvB}
theorem EqB.mono (h : EqB X n D) (hn : n ≤ m) : EqB X m D := fun A pins s σ H x y u v b sb => h A pins s σ H x y u v b (sb.mono hn)
theorem RcB.mono (h : RcB X n D) (hn : n ≤ m) : RcB X m D := fun A pins s σ H x y u v b sb => h A pins s σ H x y u v b (sb.mono hn)
/-- a call of a def within a builtin -/
theorem own_call {CX : CXT} {f : Addr} {fd : FuncData} {ps : List Str} {sp : Sp} {E : XK} {A : Around} {pins : List (Addr × Obj)} {s : Shared} {σ : L2.St} {H : Hp} {vs : List V} {us : List Value} {Q : VK} (F : FnOk X.prog X.w X.K X.mg X.base CX n f fd ps sp) (hb : Binds X.K fd ps []) (hx : Passes CX X E)
    (sb : Sub X n A) (I : Inv X pins σ H s) (r2 : Vals vs us) (hsp : sp vs H Q E) : wpAny (model X.prog X.w) A (call (.ref f) us) (EP X pins σ Q) X.xe s := by
  have e0 : Env0 X.prog X.w X.K X.mg X.base A X.stack s H := by
    have e := I.env0
    exact ⟨by rw [sb.fr]; exact e.frames, e.mod, e.bs, e.bsz, e.funs, e.frf, e.hok, e.bare⟩
  have hl := F.len _ _ _ _ hsp
  refine wpAny_call (codeAny_mono (F.run A X.stack s H ⟨us, []⟩ us vs _ E sb.room e0 (by
    have := hb s us I.kIn (by simpa [← r2.length] using hl)
    simpa using this) r2 hsp) fun r s' hq => ?_)
  cases r with
  | error e => exact hx pins σ H s e s' I hq
  | ok fl =>
    cases fl with
    | ret w => exact I.after hq
    | next => exact False.elim hq
    | brk => exact False.elim hq
    | cont => exact False.elim hq
theorem rcB_own {CX : CXT} {C f : Addr} {fd : FuncData} {ps : List Str} {R : Addr → V → Hp → Bool → Prop} {E : XK} (F : FnOk X.prog X.w X.K X.mg X.base CX n f fd ps (spEqB R))
    (hs : PySem.W.findIn X.K (.ref C) "__eq__" = some (some (.ref f))) (hf : PySem.W.isFn X.K (.ref f) = true) (hb : Binds X.K fd ps []) (hx : Passes CX X E) : RcB X n (DOwn X.K C R) := by
  intro A pins s σ H x y u v b sb I rx ry d
  obtain ⟨a, dx, fs, t, rfl, ha, ty, hn, hr⟩ := d
  cases rx
  obtain ⟨mA, J, _⟩ := ins_get I.hok ha
  obtain ⟨od, J, _⟩ := J.look
  obtain ⟨m, hF⟩ := I.fr
  obtain ⟨P, Z, p, hx'⟩ := kit_of I ry ty
  refine PySem.W.cmp_K (op := .Eq) (tb := t) sb.room.units0 hF I.ok.mod.kin J (Z.ty _ _ I.kIn p) hn hs hf ?_
  refine wpAny_mono (own_call (vs := [.ref a, y]) (Q := fun v H' => v = .bl b ∧ Ext H H') F hb hx sb I (.cons rfl (.cons ry .nil)) ⟨a, y, b, rfl, hr, fun H' e => ⟨rfl, e⟩⟩) (fun r s' hq => ?_) fun _ _ x => x
  obtain ⟨z, H', I', rz, ez, ex⟩ := hq
  subst ez
  cases rz
  exact ⟨rfl, H', I', ex⟩
/-- == inside a builtin: an object is equal to itself -/
theorem RcB.eqB (h : RcB X n D) (hr : ∀ x y H b, D x y H b → ∃ a c, x = .ref a ∧ y = .ref c ∧ (a = c → b = true)) : EqB X n D := by
  intro A pins s σ H x y u v b sb I rx ry d
  obtain ⟨a, c, rfl, rfl, hid⟩ := hr _ _ _ _ d
  cases rx
  cases ry
  by_cases hab : a = c
  · subst hab
    exact SeqAt.EqAt.same (A := A) (s := s) (.ref a) X.prog X.w X.xe _ ⟨(hid rfl).symm, H, I, Ext.rfl'⟩
  · refine GQ.eqBool_refG hab (wpAny_mono (h A pins s σ H (.ref a) (.ref c) _ _ b sb I rfl rfl d) (fun r s' q => ?_) fun _ _ x => x)
    obtain ⟨hr', q⟩ := q
    exact ⟨b, hr', rfl, q⟩
/-- x == y -/
def rEqB (D : EqvB) : R2 := fun x y H Q => ∃ b, D x y H b ∧ ∀ H', Ext H H' → Q (.bl b) H'
theorem op_eqB (h : RcB X n D) (hr : Room n X.A) : OpR X (compareOp .Eq) (rEqB D) := by
  intro pins s σ H x y v u Q I rx ry hq
  obtain ⟨b, d, q⟩ := hq
  show wpAny (model X.prog X.w) X.A (richCompare .Eq v u) (EP X pins σ Q) X.xe s
  refine wpAny_mono (h X.A pins s σ H x y v u b ⟨hr, rfl⟩ I rx ry d) (fun r s' z => ?_) fun _ _ x => x
  obtain ⟨hr', H', I', e⟩ := z
  subst hr'
  exact ⟨.bl b, H', I', rfl, q H' e⟩
/-- the answers item by item -/
def AllB (D : EqvB) (e : Nat → Bool) (xs ys : List V) (H : Hp) : Prop := ∀ (i : Nat) x y, xs[i]? = some x → ys[i]? = some y → D x y H (e i)
def DTupB (K : PySem.W.Frag) (D : EqvB) : EqvB := fun x y H b => ∃ p q xs ys e, x = .ref p ∧ y = .ref q ∧ SqT K H p xs ∧ SqT K H q ys ∧ AllB D e xs ys H ∧ b = ((List.range (min xs.length ys.length)).all e && xs.length == ys.length)
theorem arr_at {xs : List V} {its : List Value} (r : Vals xs its) {i : Nat} (h1 : i < its.toArray.size) : ∃ x, xs[i]? = some x ∧ RelV x its.toArray[i] := by
  have g1 : its[i]? = some its.toArray[i] := by
    have h1' : i < its.length := by simpa using h1
    rw [List.getElem?_eq_getElem h1'] <;> simp
  have k1 : i < xs.length := by rw [r.length]; simpa using h1
  obtain ⟨u, hu, ru⟩ := r.get (List.getElem?_eq_getElem k1)
  rw [g1] at hu
  exact ⟨_, List.getElem?_eq_getElem k1, Option.some.inj hu ▸ ru⟩
theorem rcB_tup (hD : MonB D) (h : EqB X n D) : RcB X (n + 1) (DTupB X.K D) := by
  intro A pins s σ H x y u v b sb I rx ry d
  obtain ⟨p, q, xs, ys, e, rfl, rfl, hp, hq, ha, rfl⟩ := d
  cases rx
  cases ry
  obtain ⟨its, r, t1, z⟩ := I.tuple hp
  obtain ⟨its2, r2, t2, z2⟩ := I.tuple hq
  refine rc_tupB (e := e) sb.room.units0 (fun s' => LoopI X pins σ H s') t1 t2 (fun i h1 h2 s' q => ?_) (fun s' q => ?_) ⟨H, I, Ext.rfl'⟩
  · obtain ⟨H1, I1, e1⟩ := q
    obtain ⟨a, ga, ra⟩ := arr_at r h1
    obtain ⟨c, gc, rc⟩ := arr_at r2 h2
    refine wpAny_mono (h A.in1 pins s' σ H1 a c _ _ (e i) sb.in1 I1 ra rc (hD _ _ _ _ _ e1 (ha i a c ga gc))) (fun r s2 q => ?_) fun _ _ x => x
    obtain ⟨hr, H2, I2, e2⟩ := q
    exact ⟨hr, H2, I2, e1.trans e2⟩
  · refine ⟨?_, q⟩
    rw [List.size_toArray, List.size_toArray, ← r.length, ← r2.length]
/-- x in a list, by == -/
def rInB (D : EqvB) (neg : Bool) : R2 := fun x y H Q => ∃ p ys e, y = .ref p ∧ H p = some (.lst ys) ∧ (∀ (i : Nat) z, ys[i]? = some z → D z x H (e i)) ∧ ∀ H', Ext H H' → Q (.bl (if neg then !(List.range ys.length).any e else (List.range ys.length).any e)) H'
theorem list_C (hD : MonB D) (h : EqB X n D) {A : Around} (sb : Sub X (n + 1) A) {pins : List (Addr × Obj)} {σ : L2.St} {H : Hp} {p : Addr} {x : V} {v : Value} {ys : List V} {e : Nat → Bool} (rx : RelV x v) (hp : H p = some (.lst ys)) (he : ∀ (i : Nat) z, ys[i]? = some z → D z x H (e i)) :
    ListC X.prog X.w A X.xe p v ys.length e (fun s' => LoopI X pins σ H s') := by
  intro s' q
  obtain ⟨H1, I1, e1⟩ := id q
  obtain ⟨z, its, k, r, g⟩ := I1.hok p _ (e1 _ _ hp)
  refine ⟨its.toArray, k, g, by rw [List.size_toArray, ← r.length], fun i h1 => ?_⟩
  obtain ⟨a, ga, ra⟩ := arr_at r h1
  refine wpAny_mono (h A.in1 pins s' σ H1 a x _ _ (e i) sb.in1 I1 ra rx (hD _ _ _ _ _ e1 (he i a ga))) (fun r s2 q => ?_) fun _ _ x => x
  obtain ⟨hr, H2, I2, e2⟩ := q
  exact ⟨hr, H2, I2, e1.trans e2⟩
theorem op_inB (hD : MonB D) (h : EqB X n D) (hr : Room (n + 1) X.A) : OpR X (compareOp .In) (rInB D false) := by
  intro pins s σ H x y v u Q I rx ry hq
  obtain ⟨p, ys, e, rfl, hp, he, q⟩ := hq
  cases ry
  exact in_listB (list_C hD h ⟨hr, rfl⟩ rx hp he) ⟨H, I, Ext.rfl'⟩ fun s' ⟨H1, I1, e1⟩ => ⟨.bl ((List.range ys.length).any e), H1, I1, rfl, q H1 e1⟩
theorem op_notInB (hD : MonB D) (h : EqB X n D) (hr : Room (n + 1) X.A) : OpR X (compareOp .NotIn) (rInB D true) := by
  intro pins s σ H x y v u Q I rx ry hq
  obtain ⟨p, ys, e, rfl, hp, he, q⟩ := hq
  cases ry
  exact notIn_listB (list_C hD h ⟨hr, rfl⟩ rx hp he) ⟨H, I, Ext.rfl'⟩ fun s' ⟨H1, I1, e1⟩ => ⟨.bl (!(List.range ys.length).any e), H1, I1, rfl, q H1 e1⟩
end
end Way

/-! own !=, in, len, operators of two of one class -/
namespace Way
open PySem PySem.Spec PyProof.Rows L2
section
variable {M : Model} {prog : Program} {w : World} {A : Around} {E : Value → Shared → Prop} {s : Shared} {K : PySem.W.Frag} {x C f : Addr} {ox : Obj} {od : Option Obj} {b tb : Value}
theorem objNe_K {Q : PySem.Fin → Shared → Prop} (hu : A.units < cLine) (X : K.In s.heap) (I : PySem.W.InstAt s.heap x ox C od) (hs : PySem.W.findIn K (.ref C) "__eq__" = some (some (.ref f))) (hf : PySem.W.isFn K (.ref f) = true)
    (hcall : wpAny (model prog w) A (call (.ref f) [.ref x, b]) (fun v s' => ∃ c, v = .bool c ∧ Q (.done (.ret (.bool (!c)))) s') E s) :
    wpAny (model prog w) A (Builtin.«object.__ne__» ⟨[.ref x, b], []⟩) Q E s := by
  unfold Builtin.«object.__ne__»
  repeat (first
    | with_reducible refine wpAny_cRoomFor hu ?_
    | (refine wpAny_bind (m := callSpecialIfBound? (.ref x) (Str.ofString "__eq__") [b])
        (PySem.W.ifBound_K X I hs hf (wpAny_mono hcall (fun r s' hr => by
          obtain ⟨b, rfl, hq⟩ := hr
          repeat (first | exact hq | exact wpAny_pure hq | exact wpAny_truthy_bool hq | (refine wpAny_bind (m := truthy (.bool _)) (wpAny_truthy_bool ?_)) | wp_step)) fun _ _ e => e)))
    | wp_step)
theorem call_objNe {Q : Value → Shared → Prop} (hu : A.in1.units < cLine) (X : K.In s.heap) (I : PySem.W.InstAt s.heap x ox C od) (hm : PySem.W.mroIn K C (.type "object") = some true) (hs : PySem.W.findIn K (.ref C) "__eq__" = some (some (.ref f))) (hf : PySem.W.isFn K (.ref f) = true)
    (hcall : wpAny (model prog w) A.in1 (call (.ref f) [.ref x, b]) (fun v s' => ∃ c, v = .bool c ∧ Q (.bool (!c)) s') E s) :
    wpAny (model prog w) A (call (.builtin "object.__ne__") [.ref x, b]) Q E s :=
  wpAny_call (codeAny_call_builtin F.cmp_object.ne.plain F.cmpEntry_ne (PySem.W.check_slot F.cmpKind_ne F.cmpSplit_ne (I.type.andThen (PySem.W.looks_mroIn X hm)) (F.cmpArgs_ne _ _) (objNe_K hu X I hs hf hcall)))
theorem ifBound_objNe {args : List Value} {Q : Option Value → Shared → Prop} (X : K.In s.heap) (I : PySem.W.InstAt s.heap x ox C od) (hs : PySem.W.findIn K (.ref C) "__ne__" = some (some (.builtin "object.__ne__")))
    (h : wpAny M A (call (.builtin "object.__ne__") (.ref x :: args)) (fun v => Q (some v)) E s) : wpAny M A (callSpecialIfBound? (.ref x) "__ne__" args) Q E s := by
  simp only [callSpecialIfBound?, bindSpecialIfBound?]
  refine wpAny_holding (wpAny_bind (wpAny_bind (wpAny_bind (I.type.here ((PySem.W.looks_findIn X hs).here ?_)))))
  refine wpAny_bind (wpAny_askSetting (wpAny_ite ?_))
  have fin : wpAny M A (call (.builtin "object.__ne__") ([.ref x] ++ args) >>= fun v => pure (some v)) Q E s := wpAny_bind (wpAny_mono h (fun v s' h' => wpAny_pure h') fun _ _ h' => h')
  split
  · exact wpAny_bind (wpAny_of_eq (F.cmp_object.ne.bind _) (wpAny_pure (by exact fin)))
  · exact wpAny_tryCatch (wpAny_bind (wpAny_of_eq (F.cmp_object.ne.bind _) (wpAny_pure (by exact fin))))
theorem rc_neK {Q : Value → Shared → Prop} (hu : A.units < cLine) (hu1 : A.in1.units < cLine) (X : K.In s.heap) (I : PySem.W.InstAt s.heap x ox C od) (hm : PySem.W.mroIn K C (.type "object") = some true) (hb : PySem.W.Looks (model prog w) s.heap (typeOf b) tb) (hn : PySem.W.notFirst K C tb = true)
    (hs : PySem.W.findIn K (.ref C) "__eq__" = some (some (.ref f))) (hne : PySem.W.findIn K (.ref C) "__ne__" = some (some (.builtin "object.__ne__"))) (hf : PySem.W.isFn K (.ref f) = true)
    (h : wpAny (model prog w) A.in1 (call (.ref f) [.ref x, b]) (fun v s' => ∃ c, v = .bool c ∧ Q (.bool (!c)) s') E s) : wpAny (model prog w) A (richCompare .NotEq (.ref x) b) Q E s := by
  have one : wpAny (model prog w) A (tryCompare (.ref x) "__ne__" b) (fun r s' => ∃ v, r = some v ∧ Q v s') E s := by
    unfold tryCompare
    refine wpAny_bind (ifBound_objNe X I hne (call_objNe hu1 X I hm hs hf (wpAny_mono h (fun v s' hv => ?_) fun _ _ e => e)))
    obtain ⟨c, rfl, hq⟩ := hv
    exact ⟨c, rfl, wpAny_pure ⟨_, rfl, hq⟩⟩
  unfold richCompare
  simp only [oneThing_ref, cmpInfo_NotEq]
  refine wpAny_holding (wpAny_bind (wpAny_cRoomFor hu ?_))
  refine wpAny_bind (I.type.here (wpAny_bind (hb.here ?_)))
  split
  · rename_i q
    have e : PySem.W.subIn K tb (.ref C) = some false := by
      rcases Bool.or_eq_true_iff.mp hn with e | e
      · rw [beq_iff_eq.mp e] at q; simp at q
      · exact beq_iff_eq.mp e
    refine wpAny_bind ((PySem.W.looks_subIn X e).here ?_)
    simp only [Bool.false_eq_true, if_false]
    refine wpAny_bind (wpAny_mono one (fun r s' z => ?_) fun _ _ e => e)
    obtain ⟨v, rfl, hq⟩ := z
    exact wpAny_pure hq
  · refine wpAny_bind (wpAny_pure ?_)
    simp only [Bool.false_eq_true, if_false]
    refine wpAny_bind (wpAny_mono one (fun r s' z => ?_) fun _ _ e => e)
    obtain ⟨v, rfl, hq⟩ := z
    exact wpAny_pure hq
end
section
variable {X : Cx} {n : Nat} {CX : CXT} {C f : Addr} {fd : FuncData} {ps : List Str} {sp : Sp} {E : XK}
/-- x != y, by the own == of x's class -/
def rNeB (D : EqvB) : R2 := fun x y H Q => ∃ b, D x y H b ∧ ∀ H', Ext H H' → Q (.bl (!b)) H'
theorem op_neB {R : Addr → V → Hp → Bool → Prop} (F : FnOk X.prog X.w X.K X.mg X.base CX n f fd ps (spEqB R)) (hm : PySem.W.mroIn X.K C (.type "object") = some true)
    (hs : PySem.W.findIn X.K (.ref C) "__eq__" = some (some (.ref f))) (hne : PySem.W.findIn X.K (.ref C) "__ne__" = some (some (.builtin "object.__ne__"))) (hf : PySem.W.isFn X.K (.ref f) = true) (hb : Binds X.K fd ps []) (hx : Passes CX X E) (hr : Room (n + 1) X.A) :
    OpR X (compareOp .NotEq) (rNeB (DOwn X.K C R)) := by
  intro pins s σ H x y v u Q I rx ry hq
  obtain ⟨b, ⟨a, dx, fs, t, rfl, ha, ty, hn, hR⟩, q⟩ := hq
  cases rx
  obtain ⟨mA, J, _⟩ := ins_get I.hok ha
  obtain ⟨od, J, _⟩ := J.look
  obtain ⟨P, Z, p, hx'⟩ := kit_of I ry ty
  show wpAny (model X.prog X.w) X.A (richCompare .NotEq (.ref a) u) (EP X pins σ Q) X.xe s
  have sb : Sub X (n + 1) X.A := ⟨hr, rfl⟩
  refine rc_neK hr.units0 hr.in1.units0 I.kIn J hm (Z.ty _ _ I.kIn p) hn hs hne hf ?_
  refine wpAny_mono (own_call (vs := [.ref a, y]) (Q := fun v H' => v = .bl b ∧ Ext H H') F hb hx sb.in1 I (.cons rfl (.cons ry .nil)) ⟨a, y, b, rfl, hR, fun H' e => ⟨rfl, e⟩⟩) (fun r s' hq => ?_) fun _ _ x => x
  obtain ⟨z, H', I', rz, ez, ex⟩ := hq
  subst ez
  cases rz
  exact ⟨b, rfl, .bl (!b), H', I', rfl, q H' ex⟩
/-- x in o, o of a class with its own __contains__ -/
def rInO (C : Addr) (sp : Sp) (E : XK) (neg : Bool) : R2 := fun x y H Q => ∃ a dx fs, y = .ref a ∧ H a = some (.ins C dx fs) ∧ sp [.ref a, x] H (fun v H' => ∃ b, v = .bl b ∧ Q (.bl (if neg then !b else b)) H') E
theorem op_inO (F : FnOk X.prog X.w X.K X.mg X.base CX n f fd ps sp) (hs : PySem.W.findIn X.K (.ref C) "__contains__" = some (some (.ref f))) (hf : PySem.W.isFn X.K (.ref f) = true) (hb : Binds X.K fd ps []) (hx : Passes CX X E) (hr : Room n X.A) :
    OpR X (compareOp .In) (rInO C sp E false) := by
  intro pins s σ H x y v u Q I rx ry hq
  obtain ⟨a, dx, fs, rfl, ha, q⟩ := hq
  cases ry
  obtain ⟨mA, J, _⟩ := ins_get I.hok ha
  obtain ⟨od, J, _⟩ := J.look
  obtain ⟨m, hF⟩ := I.fr
  refine PySem.W.in_K hF I.ok.mod.kin J hs hf (wpAny_mono (own_call (vs := [.ref a, x]) F hb hx ⟨hr, rfl⟩ I (.cons rfl (.cons rx .nil)) q) (fun r s' hq => ?_) fun _ _ x => x)
  obtain ⟨z, H', I', rz, b, ez, q⟩ := hq
  subst ez
  cases rz
  exact wpAny_truthy_bool ⟨.bl b, H', I', rfl, q⟩
theorem op_notInO (F : FnOk X.prog X.w X.K X.mg X.base CX n f fd ps sp) (hs : PySem.W.findIn X.K (.ref C) "__contains__" = some (some (.ref f))) (hf : PySem.W.isFn X.K (.ref f) = true) (hb : Binds X.K fd ps []) (hx : Passes CX X E) (hr : Room n X.A) :
    OpR X (compareOp .NotIn) (rInO C sp E true) := by
  intro pins s σ H x y v u Q I rx ry hq
  obtain ⟨a, dx, fs, rfl, ha, q⟩ := hq
  cases ry
  obtain ⟨mA, J, _⟩ := ins_get I.hok ha
  obtain ⟨od, J, _⟩ := J.look
  obtain ⟨m, hF⟩ := I.fr
  refine PySem.W.notIn_K hF I.ok.mod.kin J hs hf (wpAny_mono (own_call (vs := [.ref a, x]) F hb hx ⟨hr, rfl⟩ I (.cons rfl (.cons rx .nil)) q) (fun r s' hq => ?_) fun _ _ x => x)
  obtain ⟨z, H', I', rz, b, ez, q⟩ := hq
  subst ez
  cases rz
  exact wpAny_truthy_bool ⟨.bl (!b), H', I', rfl, q⟩
/-- len(o) by an own __len__ -/
def rLenO (C : Addr) (sp : Sp) (E : XK) : List V → Hp → VK → Prop := fun xs H Q => ∃ a dx fs, xs = [.ref a] ∧ H a = some (.ins C dx fs) ∧ sp [.ref a] H (fun v H' => ∃ i, v = .int i ∧ (0 ≤ i ∧ i < 2 ^ 63) ∧ Q (.int i) H') E
theorem call_lenO (F : FnOk X.prog X.w X.K X.mg X.base CX n f fd ps sp) (hs : PySem.W.findIn X.K (.ref C) "__len__" = some (some (.ref f))) (hf : PySem.W.isFn X.K (.ref f) = true) (hb : Binds X.K fd ps []) (hx : Passes CX X E) (hr : Room (n + 1) X.A) :
    CallR X (.builtin "len") (rLenO C sp E) := by
  intro pins s σ H xs us Q I r hq
  obtain ⟨a, dx, fs, rfl, ha, q⟩ := hq
  obtain ⟨u, rfl, rx⟩ := vals1 r
  cases rx
  obtain ⟨mA, J, _⟩ := ins_get I.hok ha
  obtain ⟨od, J, _⟩ := J.look
  obtain ⟨m, hF⟩ := I.fr
  have sb : Sub X (n + 1) X.A := ⟨hr, rfl⟩
  refine PySem.W.len_K hF I.ok.mod.kin J hs hf (wpAny_mono (own_call (vs := [.ref a]) F hb hx sb.in1 I (.cons rfl .nil) q) (fun r s' hq => ?_) fun _ _ x => x)
  obtain ⟨z, H', I', rz, i, ez, hi, q⟩ := hq
  subst ez
  obtain ⟨t, rfl⟩ := rz
  exact ⟨hi, .int i, H', I'.tok _, ⟨_, rfl⟩, q⟩
/-- a | b, a & b of two instances of one class -/
def rBinO (C : Addr) (sp : Sp) (E : XK) : R2 := fun x y H Q => ∃ a c dx dy fs gs, x = .ref a ∧ y = .ref c ∧ H a = some (.ins C dx fs) ∧ H c = some (.ins C dy gs) ∧ sp [.ref a, .ref c] H Q E
theorem op_binO {op : Operator} (F : FnOk X.prog X.w X.K X.mg X.base CX n f fd ps sp) (hc : PySem.W.selfFirst X.K C = true) (hs : PySem.W.findIn X.K (.ref C) (PySem.dunder op.info.2) = some (some (.ref f))) (hf : PySem.W.isFn X.K (.ref f) = true) (hb : Binds X.K fd ps []) (hx : Passes CX X E) (hr : Room n X.A) :
    OpR X (binaryOp op) (rBinO C sp E) := by
  intro pins s σ H x y v u Q I rx ry hq
  obtain ⟨a, c, dx, dy, fs, gs, rfl, rfl, ha, hc', q⟩ := hq
  cases rx
  cases ry
  obtain ⟨mA, J, _⟩ := ins_get I.hok ha
  obtain ⟨od, J, _⟩ := J.look
  obtain ⟨mB, J2, _⟩ := ins_get I.hok hc'
  obtain ⟨od2, J2, _⟩ := J2.look
  obtain ⟨m, hF⟩ := I.fr
  refine PySem.W.binop_K hF I.ok.mod.kin J J2.type hc hs hf (wpAny_mono (own_call (vs := [.ref a, .ref c]) F hb hx ⟨hr, rfl⟩ I (.cons rfl (.cons rfl .nil)) q) (fun r s' hq => ?_) fun _ _ x => x)
  obtain ⟨z, H', I', rz, q⟩ := hq
  have ok : EP X pins σ Q r s' := ⟨z, H', I', rz, q⟩
  cases r with
  | notImplemented => cases z <;> first | (obtain ⟨t, ht⟩ := rz; cases ht) | cases rz
  | _ => exact ok
end
end Way

/-! defs that show data (repr): what is known is that no showing is under way around the call -/
namespace Way
open PySem PySem.Spec PyProof.Rows L2
structure FnG (P : Program) (w : World) (K : PySem.W.Frag) (mg : Str → Option Value) (base : Heap) (CX : CXT) (k : Nat) (f : Addr) (fd : FuncData) (ps : List Str) (sp : Sp) : Prop where
  len : ∀ vs H Q E, sp vs H Q E → vs.length = ps.length
  run : ∀ (A : Around) (outer : List Env) (s : Shared) (H : Hp) (args : Args) (us : List Value) (vs : List V) (Q : VK) (E : XK), A.guards = some [] → Room k A → Env0 P w K mg base A outer s H → BindsTo s fd args (ps.zip us) → Vals vs us → sp vs H Q E →
    codeAny (model P w) A (.call (.ref f) args) (CR CX outer P w H s Q E) s
theorem fnG_of {CX : CXT} {P : Program} {w : World} {K : PySem.W.Frag} {mg : Str → Option Value} {base : Heap} {k : Nat} {f : Addr} {name qual : Str} {params : Arguments} {body : List Stmt} {scope : Scope} {dV kV doc pm cdv ct oc : Value} {an od : Option Addr}
    {osl : Array (Option Value)} {N ps : List Str} {sp : Sp} (lk : K.lookup f = some ⟨oc, od, .func (PySem.W.fnOf name qual params body scope dV kV doc pm an cdv ct), osl⟩) (hcd : PySem.W.codeIn K cdv qual = true) (S : FnScope N ps scope)
    (len : ∀ vs H Q E, sp vs H Q E → vs.length = ps.length)
    (hbody : ∀ (A : Around) (outer : List Env) (s : Shared) (H : Hp) (vs : List V) (Q : VK) (E : XK), A.guards = some [] → Room k (A.deeper (envOfC qual scope s.heap.objs.size f cdv)) → sp vs H Q E →
      ∃ t, PSs (cxOf CX P w K mg base N qual scope f cdv A outer s H E) body t ∧ t { nx := fun _ H' => Q .non H', rt := Q } (start N vs) H) :
    FnG P w K mg base CX (k + 1) f (PySem.W.fnOf name qual params body scope dV kV doc pm an cdv ct) ps sp := by
  refine ⟨len, fun A outer s H args us vs Q E hgd hr e0 hb r hsp => ?_⟩
  have hl := len _ _ _ _ hsp
  have KX : K.In s.heap := e0.mod.kin.keeps fun b o e => (e0.bs b o e).1
  have lim : s.heap.NoLimit := e0.mod.nolimit.keeps fun b o e => (e0.bs b o e).1
  have hkind : ∀ y ∈ ps.zip us, scope.names.lookup y.1 = some .local ∨ (scope.names.lookup y.1 = some .cell ∧ ((cellsFrom (s.heap.objs.size + 1) scope.names []).lookup y.1).isSome = true) := fun ⟨n, v⟩ hy => by
    rcases S.par n (List.of_mem_zip hy).1 with q | q
    · exact .inl q
    · exact .inr ⟨q, PySem.W.cellsFrom_some _ _ _ (.inl q)⟩
  refine codeAny_call_function hr.depth (KX _ _ lk) rfl S.co S.gen rfl (PySem.W.codeRec_of KX hcd) (hb _ _ _ _ ?_)
  refine wpAny_newFunctionEnv_cells S.kind hkind fun env he s1 x => ?_
  subst he
  refine ⟨lim.keeps x.toInCall.keep, codeAny_func ?_⟩
  obtain ⟨t, ht, hq⟩ := hbody A outer s H vs Q E hgd (hr.deeper _) hsp
  have I : Inv (cxOf CX P w K mg base N qual scope f cdv A outer s H E) [] (start N vs) H s1 := inv_start S hr.hd e0 hl r x
  refine wpAny_mono (ht.run [] s1 (start N vs) H _ I hq) (fun fl s' hs => ?_) fun e s' hs => hs
  have fin : ∀ {σ' : L2.St} {H' : Hp} {v : V} {u : Value}, Inv (cxOf CX P w K mg base N qual scope f cdv A outer s H E) [] σ' H' s' → RelV v u → Q v H' → CE outer P w H s Q u s' :=
    fun {σ' H' v u} J rv q => ⟨v, H', J.os, J.bare, J.base, J.hok, rv, q⟩
  cases fl with
  | ret u =>
    obtain ⟨v, σ', H', J, rv, q⟩ := hs
    exact fin J rv q
  | next =>
    obtain ⟨σ', H', J, q⟩ := hs
    exact fin (v := V.non) (u := Value.none) J rfl q
  | brk =>
    obtain ⟨_, _, _, q⟩ := hs
    exact False.elim q
  | cont =>
    obtain ⟨_, _, _, q⟩ := hs
    exact False.elim q
section
variable {P : Program} {w : World} {K : PySem.W.Frag} {mg : Str → Option Value} {base : Heap}
theorem okG {x qual : Str} {st : Stmt} {f : Addr} {fd : FuncData} {N ps : List Str} {k : Nat} {sp : Sp} (F : Fun K x qual st f fd) (S : FnScope N ps (defScope st)) (len : ∀ vs H Q E, sp vs H Q E → vs.length = ps.length)
    (hbody : ∀ (cdv : Value) (A : Around) (outer : List Env) (s : Shared) (H : Hp) (vs : List V) (Q : VK) (E : XK), A.guards = some [] → Room k (A.deeper (envOfC qual (defScope st) s.heap.objs.size f cdv)) → sp vs H Q E →
      ∃ t, PSs (cxOf CX0 P w K mg base N qual (defScope st) f cdv A outer s H E).nox (defBody st) t ∧ t { nx := fun _ H' => Q .non H', rt := Q } (start N vs) H) : FnG P w K mg base CX0 (k + 1) f fd ps sp := by
  obtain ⟨oc, od, kV, doc, pm, an, cdv, ct, osl, rfl, lk, hcd⟩ := F.ex
  refine fnG_of lk hcd S len fun A outer s H vs Q E hgd hr hsp => ?_
  obtain ⟨t, h, q⟩ := hbody cdv A outer s H vs Q E hgd hr hsp
  exact ⟨t, h.nox, q⟩
end
section
variable {X : Cx} {CX : CXT} {k : Nat} {f : Addr} {fd : FuncData} {ps : List Str} {ds : List Value} {dvs : List V} {sp : Sp} {x : Str} {e : Expr} {es : List Expr} {t : TA} {E : XK} {p pos : Pos}
theorem run_fnG {pins : List (Addr × Obj)} {σ : L2.St} {H : Hp} {s : Shared} {Q : VK} {us : List Value} {vs : List V} (F : FnG X.prog X.w X.K X.mg X.base CX k f fd ps sp) (hgd : X.A.guards = some []) (hr : Room k X.A) (hb : Binds X.K fd ps ds) (hd : Vals dvs ds) (hx : Passes CX X E)
    (I : Inv X pins σ H s) (r : Vals vs us) (h : sp (vs ++ dvs) H Q E) : wpAny (model X.prog X.w) X.A (call (.ref f) us) (EP X pins σ Q) X.xe s := by
  have r2 : Vals (vs ++ dvs) (us ++ ds) := r.append hd
  have hl : (us ++ ds).length = ps.length := by rw [← r2.length]; exact F.len _ _ _ _ h
  refine wpAny_call (codeAny_mono (F.run X.A X.stack s H ⟨us, []⟩ (us ++ ds) (vs ++ dvs) Q E hgd hr I.env0 (hb s us I.kIn hl) r2 h) fun r s' hq => ?_)
  cases r with
  | error e => exact hx pins σ H s e s' I hq
  | ok fl =>
    cases fl with
    | ret u => exact I.after hq
    | next => exact False.elim hq
    | brk => exact False.elim hq
    | cont => exact False.elim hq
theorem pe_callG (F : FnG X.prog X.w X.K X.mg X.base CX k f fd ps sp) (hgd : X.A.guards = some []) (hr : Room k X.A) (hg : Gl X x) (hm : X.mg x = some (.ref f)) (hk : PySem.W.keepIn X.K (.ref f) = true) (hb : Binds X.K fd ps ds) (hd : Vals dvs ds) (hx : Passes CX X E)
    (ha : PA X (e :: es) t) (hdb : (x == ("__debug__" : Str)) = false := by decide) (he : starEach (e :: es) X.env = (false, eval e X.env) :: starEach es X.env := by rfl) (hpl : (backTo pos (starEach es X.env)).any (·.1) = false := by rfl) :
    PE X (.Call (.Name x p) (e :: es) [] pos) (tCall sp dvs E t) := by
  refine ⟨fun pins s σ H Q I h => ?_⟩
  refine wpAny_Call_Name_kw (ld_glob I hg hm ?_ hdb)
  refine PySem.W.callWith_K (h₀ := X.base) I.ok.mod.kin hk (thn (ha.run pos pins s σ H _ I h) fun us s1 ⟨vs, H1, I1, r, q⟩ => ⟨I1.kIn, ?_⟩) he hpl
  exact run_fnG F hgd hr hb hd hx I1 r q
/-- repr of data that stand at an address -/
def rRepr (K : PySem.W.Frag) : List V → Hp → VK → Prop := fun xs H Q => ∃ a d, xs = [.ref a] ∧ Dp K H (.ref a) d ∧ d.showable = true ∧ d.depth ≤ 60 ∧ d.hasDict = false ∧ d.shown.length ≤ sizeLine ∧ Q (.str d.shown) H
theorem call_reprD (hgd : X.A.guards = some []) (hr : Room k X.A) : CallR X (.builtin "repr") (rRepr X.K) := by
  intro pins s σ H xs us Q I r h
  obtain ⟨a, d, rfl, hd, hs, hdp, hnd, hsz, q⟩ := h
  obtain ⟨u, rfl, rx⟩ := vals1 r
  obtain ⟨as, rd⟩ := Dp.reads I d _ u hd rx
  cases rx
  have hun := hr.units
  refine repr_of_reads' rd hs (PyData.noDict_hsm hnd) hgd (by omega) (fun _ _ q => q) (fun h' u tk kp => ?_) hsz
  exact ⟨.str d.shown, H, I.kept (t' := tk) kp, ⟨_, rfl⟩, q⟩
end
/-! the end of a law that shows data -/
theorem law_callG {P : Program} {w : World} {K : PySem.W.Frag} {mg mb : Str → Option Value} {CX : CXT} {k : Nat} {fa a : Addr} {fd : FuncData} {x : Str} {sp : Sp} {s₁ : Shared} {vs : List Value} {ns : List Int}
    (KX : K.In s₁.heap) (hns : s₁.heap.Ns mainGlobals mg) (hb : s₁.heap.Ns builtinsNs mb) (hbb : ∀ x : Str, x ≠ "__name__" → mb x = bootBuiltins x) (hlim : s₁.heap.NoLimit) (hg : s₁.gens = #[])
    (ha : s₁.heap.get? a = some { cls := .type "list", data := .seq vs.toArray }) (hi : IntsAre vs ns) (hl : ns.length ≤ sizeLine) (hr : Room k callerA)
    (F : ∀ base : Heap, K.In base → base.Ns mainGlobals mg → FnG P w K mg base CX k fa fd [x] sp) (hbind : ∀ (s : Shared) (u : Value), BindsTo s fd ⟨[u], []⟩ [(x, u)])
    (hsp : ∀ H : Hp, Only H → SqL K H a (ns.map V.int) → sp [.ref a] H (fun v _ => v = .bl true) fun _ _ _ => False)
    (hCX : ∀ H e s', CX [] H s₁ (fun _ _ _ => False) e s' → False) :
    codeAny (model P w) callerA (.call (.ref fa) ⟨[.ref a], []⟩) (fun r s' => r = .ok (.ret (.bool true)) ∧ OldK s₁.heap s'.heap ∧ s'.os = s₁.os ∧ AllBare s'.gens) s₁ := by
  have rv := vals_ints hi
  have lenV := hi.length
  have core : ∀ H : Hp, Only H → SqL K H a (ns.map V.int) → HOk P w H s₁.heap → (∀ b, H b ≠ none → b = a) → (H a ≠ none → K.lookup a = none) →
      codeAny (model P w) callerA (.call (.ref fa) ⟨[.ref a], []⟩) (fun r s' => r = .ok (.ret (.bool true)) ∧ OldK s₁.heap s'.heap ∧ s'.os = s₁.os ∧ AllBare s'.gens) s₁ := by
    intro H hO hS hok hA hK
    have base_of : ∀ {b : Addr} {o : Obj}, s₁.heap.get? b = some o → H b = none → (hidT s₁.heap H).get? b = some o := fun e n => hidT_get e n
    have noA : ∀ {b : Addr} {o : Obj} {es : Array DictEntry} {ep : Nat}, s₁.heap.get? b = some o → o.data = .dict es ep → H b = none := fun {b o es ep} e d => by
      cases q : H b with
      | none => rfl
      | some u =>
        have e' : b = a := hA b (by rw [q]; simp)
        subst e'
        rw [ha] at e; cases e
        have d' : Data.seq vs.toArray _ = Data.dict es ep := d
        cases d'
    have nsK : ∀ {b : Addr} {m : Str → Option Value}, s₁.heap.Ns b m → (hidT s₁.heap H).Ns b m := fun {b m} ⟨o, es, ep, e, d, r⟩ => ⟨o, es, ep, base_of e (noA e d), d, r⟩
    have hKb : K.In (hidT s₁.heap H) := fun b o e => base_of (KX b o e) (by
      cases q : H b with
      | none => rfl
      | some u =>
        have e' : b = a := hA b (by rw [q]; simp)
        subst e'
        rw [hK (by rw [q]; simp)] at e; cases e)
    have hM : Mod K mg (hidT s₁.heap H) := ⟨hKb, nsK hns, ⟨mb, nsK hb, hbb⟩, let ⟨mc, h1, h2⟩ := hlim; ⟨mc, nsK h1, h2⟩⟩
    have e0 : Env0 P w K mg (hidT s₁.heap H) callerA [] s₁ H := ⟨rfl, hM, fun b o e => of_hidT e, Nat.le_of_eq (hidT_size _ _), trivial, fun b hb => absurd (show b ∈ ([] : List Addr) from hb) (by simp), hok, .of_eq hg⟩
    refine codeAny_mono ((F _ hKb (nsK hns)).run callerA [] s₁ H ⟨[.ref a], []⟩ [.ref a] [.ref a] _ _ rfl hr e0 (hbind s₁ (.ref a)) (.cons rfl .nil) (hsp H hO hS)) fun r s' h => ?_
    cases r with
    | error e => exact (hCX H e s' h).elim
    | ok fl =>
      cases fl with
      | next => exact False.elim h
      | brk => exact False.elim h
      | cont => exact False.elim h
      | ret u =>
        obtain ⟨v, H', os, bare, un, hok', r', q⟩ := h
        have q' : v = .bl true := q
        subst q'
        obtain rfl : u = Value.bool true := r'
        refine ⟨rfl, OldK.of_keep fun b o e => ?_, os, bare⟩
        cases q : H b with
        | none => exact un.keep b o e q (by intro z; exact absurd (show b ∈ ([] : List Addr) from z) (by simp)) (by simp)
        | some u =>
          rcases hO b with z | ⟨ob, xs, z⟩
          · rw [q] at z; cases z
          · have z2 := un.frzs b ob _ z
            obtain ⟨e1, _⟩ := hok b _ z
            obtain ⟨e2, _⟩ := hok' b _ z2
            rw [e] at e1; cases e1
            exact e2
  cases hk : K.lookup a with
  | some o =>
    have e := KX a o hk
    rw [ha] at e
    cases e
    refine core (fun _ => none) (fun _ => .inl rfl) (.inr ⟨_, vs.toArray, _, hk, rfl, rfl, rfl, by rw [List.size_toArray, lenV]; exact hl, by simpa using rv⟩) (fun b u z => by have z' : (none : Option HO) = some u := z; cases z') (fun b z => absurd rfl z) fun z => absurd rfl z
  | none =>
    refine core (fun b => if b = a then some (.frz { cls := .type "list", data := .seq vs.toArray } (.lst (ns.map V.int))) else none) (fun b => ?_) (.inl (.inr ⟨{ cls := .type "list", data := .seq vs.toArray }, if_pos rfl⟩)) (fun b u z => ?_) (fun b z => ?_) fun _ => hk
    · by_cases hb : b = a
      · exact .inr ⟨_, _, if_pos hb⟩
      · exact .inl (if_neg hb)
    · by_cases hb : b = a
      · have z' := (if_pos hb).symm.trans z
        cases z'
        subst hb
        exact ⟨ha, by rw [List.length_map]; exact hl, vs, _, rv, ha⟩
      · have z' := (if_neg hb).symm.trans z
        cases z'
    · by_cases hb : b = a
      · exact hb
      · exact absurd (if_neg hb) z
theorem walk_ofG {l : PySem.W.OpenLaw} {n k : Nat} {q : Program} {loose : List Str} {XP : (Str → Option Value) → Heap → Prop} {YP : World → Heap → Prop} {d : DefRec} {K : Params → PySem.W.Frag} {CX : World → CXT} {sp : World → Sp} {x : Str}
    (hn : l.most = some n) (hn2 : n ≤ sizeLine) (hdf : d.params.defaults = []) (hr : Room k callerA)
    (hY : ∀ (w : World) (h : Heap), YP w h → (K w.params).In h)
    (F : ∀ (w : World) (mg : Str → Option Value) (fa : Addr) (h : Heap), (K w.params).In h → h.Ns mainGlobals mg → mg d.name = some (.ref fa) →
      ∃ fd : FuncData, (∀ (s : Shared) (u : Value), BindsTo s fd ⟨[u], []⟩ [(x, u)]) ∧
        ∀ base : Heap, (K w.params).In base → base.Ns mainGlobals mg → FnG l.prog w (K w.params) mg base (CX w) k fa fd [x] (sp w))
    (hsp : ∀ (w : World) (H : Hp) (a : Addr) (ns : List Int), ns.length ≤ n → Only H → SqL (K w.params) H a (ns.map V.int) → sp w [.ref a] H (fun v _ => v = .bl true) fun _ _ _ => False)
    (hCX : ∀ (w : World) (H : Hp) (s : Shared) (e : Value) (s' : Shared), CX w [] H s (fun _ _ _ => False) e s' → False) :
    PySem.W.WalkO q loose XP YP l.row.toRowW d [] (fun f vs => PySem.call f vs) := by
  refine Att.attach_call hn hdf fun w s₀ s₁ mg mb fa o pm cd doc a vs ns G Y ho hd hcd hmg hobj hints hlen hg => ?_
  have KX := hY w _ Y
  obtain ⟨fd, hb, hF⟩ := F w mg fa _ KX G.T.g hmg
  exact law_callG KX G.T.g G.T.b G.T.builtins G.T.nolimit hg hobj hints (Nat.le_trans hlen hn2) hr hF hb (fun H hO hS => hsp w H a ns hlen hO hS) fun H e s' => hCX w H s₁ e s'
end Way

/-! == and != of instances whose class has neither: by identity -/
namespace Way
open PySem PySem.Spec PyProof.Rows L2
section
variable {M : Model} {prog : Program} {w : World} {A : Around} {E : Value → Shared → Prop} {s : Shared} {K : PySem.W.Frag} {x y C : Addr} {ox oy : Obj} {od oe : Option Obj}
theorem inst_noTuple (I : PySem.W.InstAt s.heap x ox C od) : ox.cls ≠ .type "tuple" := by
  rw [I.cls]; intro e; cases e
theorem callEq_same {Q : Value → Shared → Prop} (X : K.In s.heap) (I : PySem.W.InstAt s.heap x ox C od) (hm : PySem.W.mroIn K C (.type "object") = some true) (hq : Q (.bool true) s) :
    wpAny (model prog w) A (call (.builtin "object.__eq__") [.ref x, .ref x]) Q E s :=
  wpAny_call (codeAny_call_builtin F.cmp_object.eq.plain F.cmpEntry_eq (PySem.W.check_slot F.cmpKind_eq F.cmpSplit_eq (I.type.andThen (PySem.W.looks_mroIn X hm)) (F.cmpArgs_eq _ _) (objEq_entry_same hq)))
theorem callEq_other {Q : Value → Shared → Prop} (X : K.In s.heap) (I : PySem.W.InstAt s.heap x ox C od) (J : PySem.W.InstAt s.heap y oy C oe) (hxy : x ≠ y) (hm : PySem.W.mroIn K C (.type "object") = some true) (hq : Q .notImplemented s) :
    wpAny (model prog w) A (call (.builtin "object.__eq__") [.ref x, .ref y]) Q E s :=
  wpAny_call (codeAny_call_builtin F.cmp_object.eq.plain F.cmpEntry_eq (PySem.W.check_slot F.cmpKind_eq F.cmpSplit_eq (I.type.andThen (PySem.W.looks_mroIn X hm)) (F.cmpArgs_eq _ _) (objEq_entry_other hxy I.at_ J.at_ (inst_noTuple I) hq)))
theorem neEntry_other {Q : PySem.Fin → Shared → Prop} (hu : A.units < cLine) (X : K.In s.heap) (I : PySem.W.InstAt s.heap x ox C od) (J : PySem.W.InstAt s.heap y oy C oe) (hxy : x ≠ y) (hm : PySem.W.mroIn K C (.type "object") = some true) (hs : PySem.W.findIn K (.ref C) "__eq__" = some (some (.builtin "object.__eq__")))
    (hq : Q (.done (.ret .notImplemented)) s) : wpAny (model prog w) A (Builtin.«object.__ne__» ⟨[.ref x, .ref y], []⟩) Q E s := by
  unfold Builtin.«object.__ne__»
  repeat (first
    | with_reducible refine wpAny_cRoomFor hu ?_
    | (refine wpAny_bind (m := callSpecialIfBound? (.ref x) (Str.ofString "__eq__") [.ref y]) (HN.ifBound_objEq X I hs (callEq_other X I J hxy hm ?_)))
    | wp_step)
  exact hq
theorem callNe_other {Q : Value → Shared → Prop} (hu : A.in1.units < cLine) (X : K.In s.heap) (I : PySem.W.InstAt s.heap x ox C od) (J : PySem.W.InstAt s.heap y oy C oe) (hxy : x ≠ y) (hm : PySem.W.mroIn K C (.type "object") = some true) (hs : PySem.W.findIn K (.ref C) "__eq__" = some (some (.builtin "object.__eq__"))) (hq : Q .notImplemented s) :
    wpAny (model prog w) A (call (.builtin "object.__ne__") [.ref x, .ref y]) Q E s :=
  wpAny_call (codeAny_call_builtin F.cmp_object.ne.plain F.cmpEntry_ne (PySem.W.check_slot F.cmpKind_ne F.cmpSplit_ne (I.type.andThen (PySem.W.looks_mroIn X hm)) (F.cmpArgs_ne _ _) (neEntry_other hu X I J hxy hm hs hq)))
theorem rc_eqSame {Q : Value → Shared → Prop} (hu : A.units < cLine) (X : K.In s.heap) (I : PySem.W.InstAt s.heap x ox C od) (hm : PySem.W.mroIn K C (.type "object") = some true) (hs : PySem.W.findIn K (.ref C) "__eq__" = some (some (.builtin "object.__eq__")))
    (h : Q (.bool true) s) : wpAny (model prog w) A (richCompare .Eq (.ref x) (.ref x)) Q E s := by
  have one : wpAny (model prog w) A (tryCompare (.ref x) "__eq__" (.ref x)) (fun r s' => r = some (.bool true) ∧ s' = s) E s := by
    unfold tryCompare
    exact wpAny_bind (HN.ifBound_objEq X I hs (callEq_same X I hm (wpAny_pure ⟨rfl, rfl⟩)))
  simp only [richCompare, cmpInfo_Eq, oneThing_ref]
  refine wpAny_holding (wpAny_bind (wpAny_cRoomFor hu ?_))
  refine wpAny_bind (I.type.here (wpAny_bind (I.type.here ?_)))
  rw [if_neg (by simp)]
  refine wpAny_bind (wpAny_pure ?_)
  simp only [Bool.false_eq_true, if_false]
  refine wpAny_bind (wpAny_mono one (fun r s' z => ?_) fun _ _ e => e)
  obtain ⟨rfl, rfl⟩ := z
  exact wpAny_pure h
theorem rc_neOther {Q : Value → Shared → Prop} (hu : A.units < cLine) (hu1 : A.in1.units < cLine) (X : K.In s.heap) (I : PySem.W.InstAt s.heap x ox C od) (J : PySem.W.InstAt s.heap y oy C oe) (hxy : x ≠ y) (hm : PySem.W.mroIn K C (.type "object") = some true) (hs : PySem.W.findIn K (.ref C) "__eq__" = some (some (.builtin "object.__eq__")))
    (hne : PySem.W.findIn K (.ref C) "__ne__" = some (some (.builtin "object.__ne__"))) (h : Q (.bool true) s) : wpAny (model prog w) A (richCompare .NotEq (.ref x) (.ref y)) Q E s := by
  have one : wpAny (model prog w) A (tryCompare (.ref x) "__ne__" (.ref y)) (fun r s' => r = none ∧ s' = s) E s := by
    unfold tryCompare
    exact wpAny_bind (ifBound_objNe X I hne (callNe_other hu1 X I J hxy hm hs (wpAny_pure ⟨rfl, rfl⟩)))
  have two : wpAny (model prog w) A (tryCompare (.ref y) "__ne__" (.ref x)) (fun r s' => r = none ∧ s' = s) E s := by
    unfold tryCompare
    exact wpAny_bind (ifBound_objNe X J hne (callNe_other hu1 X J I hxy.symm hm hs (wpAny_pure ⟨rfl, rfl⟩)))
  simp only [richCompare, cmpInfo_NotEq, oneThing_ref]
  refine wpAny_holding (wpAny_bind (wpAny_cRoomFor hu ?_))
  refine wpAny_bind (I.type.here (wpAny_bind (J.type.here ?_)))
  rw [if_neg (by simp)]
  refine wpAny_bind (wpAny_pure ?_)
  simp only [Bool.false_eq_true, if_false, Bool.not_false, if_true]
  refine wpAny_bind (m := tryCompare (.ref x) _ (.ref y)) (wpAny_mono one (fun r s1 z => ?_) fun _ _ e => e)
  obtain ⟨z1, z2⟩ := z
  subst z1
  subst z2
  refine wpAny_bind (m := tryCompare (.ref y) _ (.ref x)) (wpAny_mono two (fun r s2 z => ?_) fun _ _ e => e)
  obtain ⟨z1, z2⟩ := z
  subst z1
  subst z2
  exact wpAny_bind (wpAny_rule (wpAny_bind (wpAny_isSame_ref_other hxy I.at_ J.at_ (inst_noTuple I) (wpAny_pure h))))
end
section
variable {X : Cx} {k : Nat} {C : Addr}
structure ByIdent (K : PySem.W.Frag) (C : Addr) : Prop where
  mro : PySem.W.mroIn K C (.type "object") = some true
  eq : PySem.W.findIn K (.ref C) "__eq__" = some (some (.builtin "object.__eq__"))
  ne : PySem.W.findIn K (.ref C) "__ne__" = some (some (.builtin "object.__ne__"))
/-- o == o -/
def rEqI (C : Addr) : R2 := fun x y H Q => ∃ a dx fs, x = .ref a ∧ y = .ref a ∧ H a = some (.ins C dx fs) ∧ Q (.bl true) H
theorem op_eqI (B : ByIdent X.K C) (hr : Room k X.A) : OpR X (compareOp .Eq) (rEqI C) := by
  intro pins s σ H x y v u Q I rx ry h
  obtain ⟨a, dx, fs, rfl, rfl, ha, q⟩ := h
  cases rx
  cases ry
  obtain ⟨mA, J, _⟩ := ins_get I.hok ha
  obtain ⟨od, J, _⟩ := J.look
  show wpAny (model X.prog X.w) X.A (richCompare .Eq (.ref a) (.ref a)) (EP X pins σ Q) X.xe s
  exact rc_eqSame hr.units0 I.kIn J B.mro B.eq ⟨.bl true, H, I, rfl, q⟩
/-- o != p, two of one class -/
def rNeI (C : Addr) : R2 := fun x y H Q => ∃ a b dx fs dy gs, x = .ref a ∧ y = .ref b ∧ a ≠ b ∧ H a = some (.ins C dx fs) ∧ H b = some (.ins C dy gs) ∧ Q (.bl true) H
theorem op_neI (B : ByIdent X.K C) (hr : Room k X.A) : OpR X (compareOp .NotEq) (rNeI C) := by
  intro pins s σ H x y v u Q I rx ry h
  obtain ⟨a, b, dx, fs, dy, gs, rfl, rfl, hab, ha, hb, q⟩ := h
  cases rx
  cases ry
  obtain ⟨mA, J, _⟩ := ins_get I.hok ha
  obtain ⟨od, J, _⟩ := J.look
  obtain ⟨mB, J2, _⟩ := ins_get I.hok hb
  obtain ⟨oe, J2, _⟩ := J2.look
  show wpAny (model X.prog X.w) X.A (richCompare .NotEq (.ref a) (.ref b)) (EP X pins σ Q) X.xe s
  have hu1 : X.A.in1.units < cLine := by have := hr.un; show X.A.units + 1 < cLine; omega
  exact rc_neOther hr.units0 hu1 I.kIn J J2 hab B.mro B.eq B.ne ⟨.bl true, H, I, rfl, q⟩
end
end Way

/-! data whose showing fits -/
namespace Way
open PySem PySem.Spec PyProof.Rows L2
structure Shw (n m : Nat) (d : PyData) : Prop where
  sh : d.showable = true
  lv : d.leavesShort 300 = true
  wt : d.weight ≤ n
  dp : d.depth ≤ m
  nd : d.hasDict = false
structure ShwA (n m : Nat) (ds : List PyData) : Prop where
  sh : PyData.showableAll ds = true
  lv : PyData.leavesShortAll 300 ds = true
  wt : PyData.weightAll ds ≤ n
  dp : PyData.depthAll ds ≤ m
  nd : PyData.hasDictAll ds = false
theorem sw_nil {m : Nat} : ShwA 0 m [] := ⟨by simp [PyData.showableAll], by simp [PyData.leavesShortAll], by simp [PyData.weightAll], by simp [PyData.depthAll], by simp [PyData.hasDictAll]⟩
theorem sw_cons {a b m : Nat} {d : PyData} {ds : List PyData} (h : Shw a m d) (t : ShwA b m ds) : ShwA (a + 1 + b) m (d :: ds) :=
  ⟨by simp [PyData.showableAll, h.sh, t.sh], by simp [PyData.leavesShortAll, h.lv, t.lv], by have := h.wt; have := t.wt; simp only [PyData.weightAll]; omega, by have := h.dp; have := t.dp; simp only [PyData.depthAll]; omega, by simp [PyData.hasDictAll, h.nd, t.nd]⟩
theorem ShwA.le {a b m : Nat} {ds : List PyData} (h : ShwA a m ds) (e : a ≤ b) : ShwA b m ds := ⟨h.sh, h.lv, Nat.le_trans h.wt e, h.dp, h.nd⟩
theorem sw_all {a m : Nat} : ∀ {ds : List PyData}, (∀ d ∈ ds, Shw a m d) → ShwA ((a + 1) * ds.length) m ds
  | [], _ => sw_nil
  | d :: ds, h => (sw_cons (h d (List.mem_cons_self ..)) (sw_all fun x hx => h x (List.mem_cons_of_mem _ hx))).le (by rw [List.length_cons, Nat.mul_add]; omega)
theorem sw_tup {a m : Nat} {ds : List PyData} (h : ShwA a m ds) : Shw a (m + 1) (.tuple ds) :=
  ⟨by simp only [PyData.showable]; exact h.sh, by simp only [PyData.leavesShort]; exact h.lv, by simp only [PyData.weight]; exact h.wt, by simp only [PyData.depth]; have := h.dp; omega, by simp only [PyData.hasDict]; exact h.nd⟩
theorem sw_lst {a m : Nat} {ds : List PyData} (h : ShwA a m ds) : Shw a (m + 1) (.list ds) :=
  ⟨by simp only [PyData.showable]; exact h.sh, by simp only [PyData.leavesShort]; exact h.lv, by simp only [PyData.weight]; exact h.wt, by simp only [PyData.depth]; have := h.dp; omega, by simp only [PyData.hasDict]; exact h.nd⟩
theorem Shw.le {a b m k : Nat} {d : PyData} (h : Shw a m d) (e : a ≤ b) (f : m ≤ k) : Shw b k d := ⟨h.sh, h.lv, Nat.le_trans h.wt e, Nat.le_trans h.dp f, h.nd⟩
theorem sw_non {m : Nat} : Shw 0 m .none := ⟨by simp [PyData.showable], by simp [PyData.leavesShort], by simp [PyData.weight], by simp [PyData.depth], by simp [PyData.hasDict]⟩
theorem sw_int {i : Int} {m : Nat} (h : i.natAbs.log2 < 200) : Shw 200 m (.int i) := by
  refine ⟨by simp only [PyData.showable]; exact decide_eq_true (by omega), ?_, ?_, by simp only [PyData.depth]; omega, by simp only [PyData.hasDict]⟩
  · have := int_text_length_le (a := i) (k := 200) (by decide) h
    simp only [PyData.leavesShort, PyData.shown]
    refine decide_eq_true ?_
    rw [PySem.ofString_length]
    omega
  · simp only [PyData.weight]
    split <;> omega
theorem sw_str {x : Str} {m : Nat} (h : x.cps.toList.all (fun c => decide (c < 16 ^ 8)) = true) : Shw x.cps.size m (.str x) :=
  ⟨by simp only [PyData.showable], by simp only [PyData.leavesShort]; exact h, by simp only [PyData.weight]; omega, by simp only [PyData.depth]; omega, by simp only [PyData.hasDict]⟩
theorem Shw.fits {n m : Nat} {d : PyData} (h : Shw n m d) (e : n ≤ 50000) : d.shown.length ≤ sizeLine := by
  have h1 := PyData.shown_le 300 (by decide) d h.lv
  have h2 := h.wt
  have h3 : sizeLine = 16777216 := rfl
  rw [h3]
  have h4 : (300 + 2) * d.weight ≤ 302 * 50000 := Nat.mul_le_mul_left _ (by omega)
  omega
section
variable {X : Cx} {k : Nat}
/-- repr of None or of data at an address -/
def rReprO (K : PySem.W.Frag) : List V → Hp → VK → Prop := fun xs H Q => ∃ v d n m, xs = [v] ∧ (v = .non ∨ ∃ a, v = .ref a) ∧ Dp K H v d ∧ Shw n m d ∧ n ≤ 50000 ∧ m ≤ 60 ∧ Q (.str d.shown) H
theorem call_reprO (hgd : X.A.guards = some []) (hr : Room k X.A) : CallR X (.builtin "repr") (rReprO X.K) := by
  intro pins s σ H xs us Q I r h
  obtain ⟨v, d, n, m, rfl, hv, hd, hs, hn, hm, q⟩ := h
  rcases hv with rfl | ⟨a, rfl⟩
  · obtain ⟨u, rfl, rx⟩ := vals1 r
    cases rx
    cases hd
    refine P.repr_of_none ?_
    have q' : Q (.str "None") H := by simpa only [PyData.shown] using q
    exact ⟨.str "None", H, I.tok _, ⟨_, rfl⟩, q'⟩
  · exact call_reprD hgd hr pins s σ H _ us Q I r ⟨a, d, rfl, hd, hs.sh, Nat.le_trans hs.dp hm, hs.nd, hs.fits hn, q⟩
end
end Way

/-! the pen that a law draws from: a dict of six texts -/
namespace Way
open PySem PySem.Spec PyProof.Rows L2 Evl
section
variable {H : Hp} {σ : L2.St} {td ty te : TE} {D : Ends} {tz : TS}
theorem ev_dget {a : Addr} {y v : V} (h1 : Ev td σ H (.ref a)) (h2 : Ev ty σ H y) (g : ∀ H1, Ex H H1 → DGet H1 a y (some v)) : Ev (tDGet td ty) σ H v := fun H1 e Q q =>
  h1 H1 e _ fun H2 e2 => h2 H2 (e.trans e2) _ fun H3 e3 => ⟨a, v, rfl, g H3 ((e.trans e2).trans e3), q H3 (e2.trans e3)⟩
theorem ev_dgetK {a : Addr} {kvs : List (Key × V)} {k : Str} {v : V} (h1 : Ev td σ H (.ref a)) (h2 : Ev ty σ H (.str k)) (h : H a = some (.dK kvs)) (hv : valV kvs (.inr k) = some v) : Ev (tDGet td ty) σ H v :=
  ev_dget h1 h2 fun H1 e => hv ▸ DGet.k (k := .inr k) (e _ _ h)
theorem s_dput {a : Addr} {kvs : List (Key × V)} {k : Str} {v : V} (h : H a = some (.dK kvs)) (hv : Ev te σ H v) (h1 : Ev td σ H (.ref a)) (h2 : Ev ty σ H (.str k)) (hz : kvs.length < 100000) (q : ∀ H1, Ex H H1 → D.nx σ (upd H1 a (.dK (putK kvs (.inr k) v)))) :
    tAsg te (gSub td ty rSetD) D σ H := hv H (Ex.refl H) _ fun H1 e1 => h1 H1 e1 _ fun H2 e2 => h2 H2 (e1.trans e2) _ fun H3 e3 =>
  ⟨a, _, rfl, DPut.k (k := .inr k) (((e1.trans e2).trans e3) _ _ h) (sz_lt hz), q H3 ((e1.trans e2).trans e3)⟩
theorem q_dput {a : Addr} {kvs : List (Key × V)} {k : Str} {v : V} (h : H a = some (.dK kvs)) (hv : Ev te σ H v) (h1 : Ev td σ H (.ref a)) (h2 : Ev ty σ H (.str k)) (hz : kvs.length < 100000) (q : ∀ H1, Ex H H1 → tz D σ (upd H1 a (.dK (putK kvs (.inr k) v)))) :
    tSeq (tAsg te (gSub td ty rSetD)) tz D σ H := s_dput (D := { D with nx := tz D }) h hv h1 h2 hz q
end
def penK (c : Addr) (i r d m t : Int) : List (Key × V) := [(.inr "cells", .ref c), (.inr "at", .int i), (.inr "rest", .int r), (.inr "digits", .int d), (.inr "mix", .int m), (.inr "turn", .int t)]
theorem kne {x y : Str} (h : x ≠ y) : ¬ (Sum.inr x : Key) = Sum.inr y := fun e => h (Sum.inr.inj e)
section
variable {c : Addr} {i r d m t z : Int}
theorem pk_cells : valV (penK c i r d m t) (.inr "cells") = some (.ref c) := valV_pos rfl
theorem pk_at : valV (penK c i r d m t) (.inr "at") = some (.int i) := (valV_neg (kne (by decide +kernel))).trans (valV_pos rfl)
theorem pk_rest : valV (penK c i r d m t) (.inr "rest") = some (.int r) := (valV_neg (kne (by decide +kernel))).trans ((valV_neg (kne (by decide +kernel))).trans (valV_pos rfl))
theorem pk_digits : valV (penK c i r d m t) (.inr "digits") = some (.int d) := (valV_neg (kne (by decide +kernel))).trans ((valV_neg (kne (by decide +kernel))).trans ((valV_neg (kne (by decide +kernel))).trans (valV_pos rfl)))
theorem pk_mix : valV (penK c i r d m t) (.inr "mix") = some (.int m) := (valV_neg (kne (by decide +kernel))).trans ((valV_neg (kne (by decide +kernel))).trans ((valV_neg (kne (by decide +kernel))).trans ((valV_neg (kne (by decide +kernel))).trans (valV_pos rfl))))
theorem pk_turn : valV (penK c i r d m t) (.inr "turn") = some (.int t) := (valV_neg (kne (by decide +kernel))).trans ((valV_neg (kne (by decide +kernel))).trans ((valV_neg (kne (by decide +kernel))).trans ((valV_neg (kne (by decide +kernel))).trans ((valV_neg (kne (by decide +kernel))).trans (valV_pos rfl)))))
theorem kcons_ne {x y : Str} {v w : V} (h : x ≠ y) : (if (Sum.inr x : Key) = Sum.inr y then ((Sum.inr x : Key), w) else (Sum.inr x, v)) = (Sum.inr x, v) := if_neg (kne h)
theorem kcons_eq {x : Str} {v w : V} : (if (Sum.inr x : Key) = Sum.inr x then ((Sum.inr x : Key), w) else (Sum.inr x, v)) = (Sum.inr x, w) := if_pos rfl
theorem put_has {kvs : List (Key × V)} {k : Key} {v : V} (h : (valV kvs k).isSome = true) : putK kvs k v = kvs.map fun kv => if kv.1 = k then (kv.1, v) else kv := by
  unfold putK
  rw [if_pos (by rw [valV_any]; exact h)]
theorem pp_at : putK (penK c i r d m t) (.inr "at") (.int z) = penK c z r d m t := by
  rw [put_has (by rw [pk_at]; rfl)]
  unfold penK
  simp only [List.map_cons, List.map_nil]
  rw [kcons_ne (by decide +kernel), if_pos True.intro, kcons_ne (by decide +kernel), kcons_ne (by decide +kernel), kcons_ne (by decide +kernel), kcons_ne (by decide +kernel)]
theorem pp_rest : putK (penK c i r d m t) (.inr "rest") (.int z) = penK c i z d m t := by
  rw [put_has (by rw [pk_rest]; rfl)]
  unfold penK
  simp only [List.map_cons, List.map_nil]
  rw [kcons_ne (by decide +kernel), kcons_ne (by decide +kernel), if_pos True.intro, kcons_ne (by decide +kernel), kcons_ne (by decide +kernel), kcons_ne (by decide +kernel)]
theorem pp_digits : putK (penK c i r d m t) (.inr "digits") (.int z) = penK c i r z m t := by
  rw [put_has (by rw [pk_digits]; rfl)]
  unfold penK
  simp only [List.map_cons, List.map_nil]
  rw [kcons_ne (by decide +kernel), kcons_ne (by decide +kernel), kcons_ne (by decide +kernel), if_pos True.intro, kcons_ne (by decide +kernel), kcons_ne (by decide +kernel)]
theorem pp_mix : putK (penK c i r d m t) (.inr "mix") (.int z) = penK c i r d z t := by
  rw [put_has (by rw [pk_mix]; rfl)]
  unfold penK
  simp only [List.map_cons, List.map_nil]
  rw [kcons_ne (by decide +kernel), kcons_ne (by decide +kernel), kcons_ne (by decide +kernel), kcons_ne (by decide +kernel), if_pos True.intro, kcons_ne (by decide +kernel)]
theorem pp_turn : putK (penK c i r d m t) (.inr "turn") (.int z) = penK c i r d m z := by
  rw [put_has (by rw [pk_turn]; rfl)]
  unfold penK
  simp only [List.map_cons, List.map_nil]
  rw [kcons_ne (by decide +kernel), kcons_ne (by decide +kernel), kcons_ne (by decide +kernel), kcons_ne (by decide +kernel), kcons_ne (by decide +kernel), if_pos True.intro]
theorem pk_made : mergeK [] (penK c i r d m t) = penK c i r d m t := by
  have h : ∀ (a b : List (Key × V)) (p : Key × V), valV a p.1 = none → mergeK a (p :: b) = mergeK (a ++ [p]) b := fun a b p e => by
    show mergeK (putK a p.1 p.2) b = _
    rw [putK_new _ e]
  unfold penK
  rw [h _ _ _ valV_nil, h _ _ _ (by rw [List.nil_append, valV_neg (kne (by decide +kernel)), valV_nil]),
    h _ _ _ (by simp only [List.nil_append, List.cons_append]; rw [valV_neg (kne (by decide +kernel)), valV_neg (kne (by decide +kernel)), valV_nil]),
    h _ _ _ (by simp only [List.nil_append, List.cons_append]; rw [valV_neg (kne (by decide +kernel)), valV_neg (kne (by decide +kernel)), valV_neg (kne (by decide +kernel)), valV_nil]),
    h _ _ _ (by simp only [List.nil_append, List.cons_append]; rw [valV_neg (kne (by decide +kernel)), valV_neg (kne (by decide +kernel)), valV_neg (kne (by decide +kernel)), valV_neg (kne (by decide +kernel)), valV_nil]),
    h _ _ _ (by simp only [List.nil_append, List.cons_append]; rw [valV_neg (kne (by decide +kernel)), valV_neg (kne (by decide +kernel)), valV_neg (kne (by decide +kernel)), valV_neg (kne (by decide +kernel)), valV_neg (kne (by decide +kernel)), valV_nil])]
  rfl
end
/-- a pen at p over the cells at c, drawn from at most k times -/
def Pen (H : Hp) (p c : Addr) (k : Nat) : Prop := ∃ (cs : List Int) (i r d m t : Int), H p = some (.dK (penK c i r d m t)) ∧ H c = some (.lst (cs.map V.int)) ∧ 0 ≤ i ∧ 0 ≤ d ∧ d ≤ 50 ∧ 0 ≤ m ∧ m < 2147483648 ∧ 0 ≤ t ∧ t ≤ k
theorem Pen.le {H : Hp} {p c : Addr} {j k : Nat} (h : Pen H p c j) (e : j ≤ k) : Pen H p c k := let ⟨cs, i, r, d, m, t, h1, h2, a1, a2, a3, a4, a5, a6, a7⟩ := h; ⟨cs, i, r, d, m, t, h1, h2, a1, a2, a3, a4, a5, a6, by omega⟩
theorem Pen.mono {H H' : Hp} {p c : Addr} {k : Nat} (h : Pen H p c k) (e : Same H H') : Pen H' p c k := let ⟨cs, i, r, d, m, t, h1, h2, a⟩ := h; ⟨cs, i, r, d, m, t, e _ _ h1, e _ _ h2, a⟩
theorem Pen.kp {H H' : Hp} {s p c : Addr} {k : Nat} (h : Pen H p c k) (e : Kp s H H') (n1 : p ≠ s) (n2 : c ≠ s) : Pen H' p c k := let ⟨cs, i, r, d, m, t, h1, h2, a⟩ := h; ⟨cs, i, r, d, m, t, e _ _ n1 h1, e _ _ n2 h2, a⟩
theorem Pen.here {H : Hp} {p c : Addr} {k : Nat} (h : Pen H p c k) : ∃ kvs, H p = some (.dK kvs) := let ⟨_, _, _, _, _, _, h1, _⟩ := h; ⟨_, h1⟩
theorem Pen.cells {H : Hp} {p c : Addr} {k : Nat} (h : Pen H p c k) : ∃ cs : List Int, H c = some (.lst (cs.map V.int)) := let ⟨cs, _, _, _, _, _, _, h2, _⟩ := h; ⟨cs, h2⟩
theorem Pen.ne {H : Hp} {p c q : Addr} {k : Nat} (h : Pen H p c k) (e : H q = none) : q ≠ p := let ⟨o, ho⟩ := h.here; fun z => by rw [z, ho] at e; cases e
theorem Pen.neC {H : Hp} {p c q : Addr} {k : Nat} (h : Pen H p c k) (e : H q = none) : q ≠ c := let ⟨o, ho⟩ := h.cells; fun z => by rw [z, ho] at e; cases e
theorem Pen.upd {H : Hp} {p c q : Addr} {k : Nat} {o : HO} (h : Pen H p c k) (n1 : q ≠ p) (n2 : q ≠ c) : Pen (upd H q o) p c k := let ⟨cs, i, r, d, m, t, h1, h2, a⟩ := h; ⟨cs, i, r, d, m, t, (upd_ne n1.symm).trans h1, (upd_ne n2.symm).trans h2, a⟩
end Way

/-! an own exception's __init__ that begins with super().__init__(..) -/
namespace Way
open PySem PySem.Spec PyProof.Rows L2 NdefX
/-- what the written part says of the def: its function, code, the cell of its class -/
structure SupFn (K : PySem.W.Frag) (prog : Program) (name qual : Str) (st : Stmt) (f : Addr) (fd : FuncData) (D c cc : Addr) : Prop where
  ex : ∃ (oc kV doc pm ct : Value) (od an : Option Addr) (osl : Array (Option Value)), fd = PySem.W.fnX name qual (defArgs st) (defBody st) (defScope st) [("__class__", cc)] .none kV doc pm an (.ref c) ct ∧ K.lookup f = some ⟨oc, od, .func fd, osl⟩
  cd : PySem.W.codeIn K (.ref c) qual = true
  file : ∃ (ccl : Value) (cdd : Option Addr) (vs : Array Value) (ccs : Array (Option Value)) (file : Str) (tf : Tok), K.lookup c = some ⟨ccl, cdd, .fields vs, ccs⟩ ∧ vs[2]? = some (.str file tf) ∧ ((prog.main.file : Str) == file) = true
  cell : ∃ (cl : Value) (cld : Option Addr) (csl : Array (Option Value)), K.lookup cc = some ⟨cl, cld, .cell (some (.ref D)), csl⟩
  sub : PySem.W.mroIn K D (.ref D) = some true
  opq : PySem.W.nsIn K cStatics "thirdparty.any" = some none
  sup : PySem.W.ks_superIn K D D "__init__" = some (some (.builtin "ValueError.__init__"))
  ve : PySem.W.subIn K (.ref D) (.type "ValueError") = some true
  top : (prog.main.scope.names.lookup ("super" : Str)).isSome = false
section
variable {X : Cx} {pins : List (Addr × Obj)} {σ : L2.St} {H : Hp} {s : Shared} {a C u : Addr} {E : Value → Shared → Prop} {A : Around}
/-- the bound ValueError.__init__ is called -/
theorem mw_init {us : List Value} {Q : Value → Shared → Prop} (T : OexC X.K C) (I : Inv X pins σ H s) (e : H a = some (exo a C none)) (hu : s.heap.get? u = some (PySem.W.kxs_mw "ValueError.__init__" a)) (hl : us.length ≤ sizeLine) (h : ∀ s', Inv X pins σ H s' → Q .none s') :
    wpAny (model X.prog X.w) A (call (.ref u) us) Q E s := by
  obtain ⟨nm, q, N, bs, bm, sn, sub, ab, col, dd, k0, k1, k2, k3, k5, hC, hbm⟩ := T.cls
  obtain ⟨t1, ho⟩ := exo_at I.hok e
  have KX := I.kIn
  obtain ⟨hp, g, d, t, os⟩ := s
  refine wpAny_call (codeAny_of_tree ?_)
  show wpAny _ A.in1 (callAny (.ref u) ⟨us, []⟩) _ _ _
  simp only [callAny]
  refine wpAny_bind (wpAny_load hu ?_)
  simp only [PySem.W.kxs_mw, show (Value.type "method-wrapper" == Value.type "method" || Value.type "method-wrapper" == Value.type "builtin_function_or_method" || Value.type "method-wrapper" == Value.type "method-wrapper") = true by decide, if_true]
  refine PySem.W.KFB.if_so (by decide) ?_
  refine wpAny_bind (PySem.W.check_bound_init F.excBase_ValueError.toExcCallFacts (KX _ _ hC) ho rfl ?_)
  refine wpAny_bind (wpAny_pure (wpAny_pure ?_))
  refine ⟨plainId_quiet F.excBase_ValueError.init.plain _, codeAny_builtin F.excBase_ValueError.initEntry ?_⟩
  refine PySem.W.exc_init_tree (cls := .ref C) (t0 := t1) (dv := none) (c2 := .none) (c3 := .none) (b4 := .bool false) ho hl fun h' k hx ht => ?_
  have J := I.write (t' := t) (x := a) (e := a) (o := exo a C none) (by rw [e]; exact True.intro) (.inl rfl) k ⟨_, hx⟩ (exo_ok hx)
  have eu : upd H a (exo a C none) = H := by
    funext b
    by_cases hb : b = a
    · rw [hb, upd_same, e]
    · rw [upd_ne hb]
  rw [eu] at J
  exact h _ J
end
section
variable {P : Program} {w : World} {K : PySem.W.Frag} {mg : Str → Option Value} {base : Heap} {N ps : List Str} {name qual : Str} {st : Stmt} {f D c cc : Addr} {fd : FuncData} {k : Nat} {sp : Sp} {rest : List Stmt} {xm : Str} {kk : Nat} {p5 p0 p1 p2 p3 p4 : Pos} {ar : Arg}
abbrev supF (name qual : Str) (st : Stmt) (cc c : Addr) : NF := ⟨name, qual, defArgs st, defBody st, defScope st, [("__class__", cc)], c⟩
theorem superOk (Fn : SupFn K P name qual st f fd D c cc) (T : OexC K D) (S : NScope N ps ["__class__"] (defScope st)) (len : ∀ vs H Q E, sp vs H Q E → vs.length = ps.length)
    (hb0 : defBody st = .Expr (.Call (.Attribute (.Call (.Name "super" p0) [] [] p1) "__init__" p2) [.Constant (.str xm) kk p5] [] p3) p4 :: rest)
    (hself : ((defArgs st).posonlyargs ++ (defArgs st).args).head? = some ar) (hps : ps.head? = some ar.arg) (hks : (defScope st).names.lookup ("super" : Str) = some .globalImplicit) (hm : mg "super" = none)
    (hst1 : ∀ env : Env, starEach [.Constant (.str xm) kk p5] env = (false, eval (.Constant (.str xm) kk p5) env) :: starEach [] env) (hsw : ∀ env : Env, swapsWith (.Call (.Attribute (.Call (.Name "super" p0) [] [] p1) "__init__" p2) [.Constant (.str xm) kk p5] [] p3) none p4.line env = pure false)
    (hmc : ∀ env : Env, ∃ pl : Sem Bool, eval (.Call (.Attribute (.Call (.Name "super" p0) [] [] p1) "__init__" p2) [.Constant (.str xm) kk p5] [] p3) env = (do
      let ov ← attributeBase (.Call (.Name "super" p0) [] [] p1) "__init__" env (eval (.Call (.Name "super" p0) [] [] p1) env)
      standAt p2.atName
      let (f, first) ← holding [ov] (getMethod ov "__init__" pl)
      callWith p3 f first (backTo p3 (starEach [.Constant (.str xm) kk p5] env)) []))
    (hrest : ∀ (A : Around) (outer : List Env) (s : Shared) (H : Hp) (vs : List V) (Q : VK) (E : XK), Room k (A.deeper (envF (supF name qual st cc c) f s.heap.objs.size)) → sp vs H Q E →
      ∃ a vs', vs = .ref a :: vs' ∧ H a = some (exo a D none) ∧ ∃ t, PSs (ncx CX0 P w K mg base N (supF name qual st cc c) f A outer s H E) rest t ∧ t { nx := fun _ H' => Q .non H', rt := Q } (startF N vs [some (.ref D)]) H) :
    FnOk P w K mg base CX0 (k + 1) f fd ps sp := by
  refine ⟨len, fun A outer s H args us vs Q E hr e0 hb r hsp => ?_⟩
  obtain ⟨oc, kV, doc, pm, ct, od, an, osl, rfl, lk⟩ := Fn.ex
  obtain ⟨ccl, cdd, fvs, ccs, file, tf, lc, hvs, hfile⟩ := Fn.file
  obtain ⟨cl, cld, csl, lcc⟩ := Fn.cell
  have hl := len _ _ _ _ hsp
  have KX : K.In s.heap := e0.mod.kin.keeps fun b o e => (e0.bs b o e).1
  have lim : s.heap.NoLimit := e0.mod.nolimit.keeps fun b o e => (e0.bs b o e).1
  have hH : H cc = none := (e0.bs _ _ (e0.mod.kin _ _ lcc)).2
  have hCl : CellsAt [("__class__", cc)] ["__class__"] [some (.ref D)] s.heap H := by
    have one : ∀ {y : Str} {c' : Addr}, ([("__class__", cc)] : List (Str × Addr)).lookup y = some c' → y = "__class__" ∧ c' = cc := fun {y c'} h => by
      rw [List.lookup_cons] at h
      cases e : (y == ("__class__" : Str)) with
      | true => rw [e] at h; exact ⟨eq_of_beq e, (Option.some.inj h).symm⟩
      | false => rw [e] at h; cases h
    refine ⟨rfl, fun y c' h => ?_, fun x y c' h1 h2 => ?_, fun i y h => ?_⟩
    · obtain ⟨_, rfl⟩ := one h
      exact ⟨hH, _, _, KX _ _ lcc, rfl⟩
    · rw [(one h1).1, (one h2).1]
    · match i, h with
      | 0, h =>
        cases h
        refine ⟨cc, by simp [List.lookup], fun v hv => ?_⟩
        cases hv
        exact ⟨.ref D, rfl, _, KX _ _ lcc, rfl⟩
  obtain ⟨a, vs', rfl, ha, t, ht, hq⟩ := hrest A outer s H vs Q E (hr.deeper _) hsp
  refine PySem.ks_codeAny_call_defAt hr.depth (KX _ _ lk) rfl lim (PySem.W.codeRec_of KX Fn.cd) rfl hb S.nocell (fun ⟨n, _⟩ hy => S.par n (List.of_mem_zip hy).1) (fun h₁ hns kp => ?_) S.co S.gen S.kind
  have I : Inv (ncx CX0 P w K mg base N (supF name qual st cc c) f A outer s H E) [] (startF N (.ref a :: vs') [some (.ref D)]) H { s with heap := h₁, toks := s.toks + (ps.zip us).length } := inv_startN S hr.hd e0 hl r hCl hns kp
  show PySem.wpAt (model P w) (A.deeper (envF (supF name qual st cc c) f s.heap.objs.size)) (.func (defBody st) (envF (supF name qual st cc c) f s.heap.objs.size)) (execs (defBody st) (envF (supF name qual st cc c) f s.heap.objs.size)) _ _ _
  have KX1 : K.In h₁ := KX.keeps kp
  obtain ⟨t1, ho1⟩ := exo_at I.hok ha
  have hnsL : h₁.Ns s.heap.objs.size fun y => (ps.zip us).reverse.lookup y := hns
  cases r with
  | @cons _ u0 _ ur ra rr =>
  obtain rfl : u0 = Value.ref a := ra
  have hkA : (defScope st).names.lookup ar.arg = some .local := S.par _ (List.mem_of_head? hps)
  have hself' : ((ps.zip (Value.ref a :: ur)).reverse).lookup ar.arg = some (.ref a) := by
    have ndP : ps.Nodup := by
      have q := S.nd.sublist (List.take_sublist (ps.length + (["__class__"] : List Str).length) N)
      rw [S.pre] at q
      exact (List.nodup_append.mp q).1
    refine zip_look (i := 0) ndP ?_ rfl
    rw [← hps, List.head?_eq_getElem?]
  have hkc : (defScope st).names.lookup ("__class__" : Str) = some .free := S.frk _ (List.mem_singleton.mpr rfl)
  obtain ⟨oD, hD1, cdD, hD2, hcD⟩ : ∃ oD, h₁.get? D = some oD ∧ ∃ cd, oD.data = .cls cd ∧ PySem.W.clsIn K D = some cd := by
    obtain ⟨nm, q, N', bs, bm, sn, sub, ab, col, dd, k0, k1, k2, k3, k5, hC, hbm⟩ := T.cls
    refine ⟨_, KX1 _ _ hC, _, rfl, ?_⟩
    unfold PySem.W.clsIn
    rw [hC]
  have hex : execs (defBody st) (envF (supF name qual st cc c) f s.heap.objs.size) = execs (.Expr (.Call (.Attribute (.Call (.Name "super" p0) [] [] p1) "__init__" p2) [.Constant (.str xm) kk p5] [] p3) p4 :: rest) (envF (supF name qual st cc c) f s.heap.objs.size) := congrArg (fun b => execs b (envF (supF name qual st cc c) f s.heap.objs.size)) hb0
  rw [hex]
  have hin : interactive (envF (supF name qual st cc c) f s.heap.objs.size) = false := by
    have hk : (envF (supF name qual st cc c) f s.heap.objs.size).scope.kind = .function := S.kind
    unfold interactive
    rw [hk]
    rfl
  obtain ⟨pl, he⟩ := hmc (envF (supF name qual st cc c) f s.heap.objs.size)
  obtain ⟨mb, hb1, hb2⟩ := I.mod.blt
  have haD : a ≠ D := fun z => by
    obtain ⟨nm, q, N', bs, bm, sn, sub, ab, col, dd, k0, k1, k2, k3, k5, hC, hbm⟩ := T.cls
    rw [z, (e0.bs _ _ (e0.mod.kin _ _ hC)).2] at ha
    cases ha
  have hsup : PySem.W.alongIn K "__init__" ((cdD.mro.dropWhile (· != .ref D)).drop 1) = some (some (.builtin "ValueError.__init__")) := by
    have q := Fn.sup
    unfold PySem.W.ks_superIn at q
    rw [hcD] at q
    exact q
  refine PySem.ks_wpAt_execs_cons (PySem.ks_wpAt_Expr_any (PySem.ks_wpAt_MethodCall ?_ he) hin (hsw _))
  refine PySem.ks_wpAt_super_base (env := envF (supF name qual st cc c) f s.heap.objs.size) hks hkc (by decide) rfl (KX1 _ _ lk) rfl hself rfl (KX1 _ _ lc) rfl hvs hfile Fn.top ?_
  refine PySem.W.ks_loadName_global S.kind hks (Calls.loadGlobal_builtin (I.mod.glob.keeps I.bk) hm (hb1.keeps I.bk) ((hb2 _ (by decide)).trans (by decide +kernel)) ⟨rfl, ?_⟩)
  refine wpAny_loadName_free (env := envF (supF name qual st cc c) f s.heap.objs.size) S.kind hkc rfl ⟨_, KX1 _ _ lcc, rfl⟩ ?_
  refine wpAny_loadName_local (env := envF (supF name qual st cc c) f s.heap.objs.size) S.kind hkA hnsL hself' ?_
  refine PySem.ks_wpAny_isType_cls hD1 hD2 ⟨rfl, ?_⟩
  refine PySem.ks_wpAny_call_super hD1 hD2 ho1 rfl (fun c e => by cases e) (PySem.W.looks_mroIn KX1 Fn.sub) (fun h2 e2 kp2 => ?_)
  have J := I.kept (t' := s.toks + (ps.zip (Value.ref a :: ur)).length) kp2
  have KX2 := KX1.keeps kp2
  have at2 : PySem.W.InstAt h2 a _ D none := ⟨kp2 _ _ ho1, rfl, rfl, trivial⟩
  refine PySem.W.kxs_getMethod PySem.W.kxs_ValueError e2 (PySem.W.looks_opaque KX2 Fn.opq) (l₀ := cdD.mro) (fun A Q E s k q => wpAny_bind ((PySem.W.looks_clsIn KX2 hcD) A _ E s k (wpAny_pure q))) rfl KX2 hsup (at2.type.andThen (PySem.W.looks_subIn KX2 Fn.ve)) haD (by decide) ?_
  have kp3 : ∀ b o, h2.get? b = some o → (h2.push (PySem.W.kxs_mw "ValueError.__init__" a)).get? b = some o := fun b o e => Heap.get?_push_of_some _ e
  have hmw : (h2.push (PySem.W.kxs_mw "ValueError.__init__" a)).get? h2.objs.size = some (PySem.W.kxs_mw "ValueError.__init__" a) := Heap.get?_push_at rfl rfl
  have J3 := J.kept (t' := s.toks + (ps.zip (Value.ref a :: ur)).length + 1) kp3
  rw [hst1]
  refine PySem.W.kxs_callWith (i := "ValueError.__init__") (x := a) rfl (Calls.evalArgs_plain (Calls.spliced_cons (Calls.Constant_str (k := kk) (pos := p5) (Calls.spliced_nil ⟨hmw, ?_⟩))))
  refine mw_init (X := ncx CX0 P w K mg base N (supF name qual st cc c) f A outer s H E) T (J3.tok _) ha hmw (by show 1 ≤ sizeLine; decide) fun s4 J4 => ?_
  refine wpAt_of_wpAny (wpAny_mono (ht.run [] s4 _ H _ J4 hq) (fun fl s' hs => ?_) fun e s' hs => hs)
  have fin : ∀ {σ' : L2.St} {H' : Hp} {v : V} {u : Value}, Inv (ncx CX0 P w K mg base N (supF name qual st cc c) f A outer s H E) [] σ' H' s' → L2.RelV v u → Q v H' → CE outer P w H s Q u s' :=
    fun {σ' H' v u} J rv q => ⟨v, H', J.os, J.bare, J.base, J.hok, rv, q⟩
  cases fl with
  | ret u =>
    obtain ⟨v, σ', H', J, rv, q⟩ := hs
    exact fin J rv q
  | next =>
    obtain ⟨σ', H', J, q⟩ := hs
    exact fin (v := V.non) (u := Value.none) J rfl q
  | brk =>
    obtain ⟨_, _, _, q⟩ := hs
    exact False.elim q
  | cont =>
    obtain ⟨_, _, _, q⟩ := hs
    exact False.elim q
end
end Way

/-! own exceptions as values -/
namespace Way
open PySem PySem.Spec PyProof.Rows L2
/-- C(e, ..) as a value: C's own __init__ keeps sp -/
def tMkX (C : Addr) (sp : Sp) (dvs : List V) (E : XK) (ta : TA) : TE := fun σ H Q => ta σ H fun vs H1 => vs.length ≤ 1000 ∧ ∀ a, H1 a = none → sp (.ref a :: (vs ++ dvs)) (upd H1 a (exo a C none)) (fun v H2 => v = .non ∧ Q (.ref a) H2) E
section
variable {X : Cx} {e : Expr} {es : List Expr} {ta : TA} {p pos : Pos}
theorem pe_mkX {CX : CXT} {x : Str} {C fI : Addr} {k : Nat} {fd : FuncData} {ps : List Str} {sp : Sp} {ds : List Value} {dvs : List V} {E : XK} (T : OexC X.K C) (iC : PySem.W.findIn X.K (.ref C) "__init__" = some (some (.ref fI))) (tI : PySem.W.typeIn X.K (.ref fI) = some (.type "function"))
    (F1 : FnOk X.prog X.w X.K X.mg X.base CX k fI fd ps sp) (hr : Room (k + 1) X.A) (hb : Binds X.K fd ps ds) (hd : Vals dvs ds) (hx : Passes CX X E) (hg : Gl X x) (hm : X.mg x = some (.ref C)) (ha : PA X (e :: es) ta)
    (hdb : (x == ("__debug__" : Str)) = false := by decide) (he : starEach (e :: es) X.env = (false, eval e X.env) :: starEach es X.env := by rfl) (hpl : (backTo pos (starEach es X.env)).any (·.1) = false := by rfl) :
    PE X (.Call (.Name x p) (e :: es) [] pos) (tMkX C sp dvs E ta) := by
  refine ⟨fun pins s σ H Q I h => ?_⟩
  obtain ⟨nm, q, N, bs, bm, sn, sub, ab, col, dd, k0, k1, k2, k3, k5, hC, hbm⟩ := T.cls
  refine wpAny_Call_Name_kw (ld_glob I hg hm ?_ hdb)
  refine PySem.W.callWith_K (h₀ := X.base) I.ok.mod.kin T.kC (thn (ha.run pos pins s σ H _ I h) fun us s1 ⟨vs, H1, I1, r1, hz, q1⟩ => ⟨I1.kIn, ?_⟩) he hpl
  show wpAny _ _ (call (.ref C) us) _ _ _
  obtain ⟨hp, g, dr, tk, os⟩ := s1
  have hsz : hp.objs.size ≤ hp.objs.size + 1 := Nat.le_succ _
  have hn : H1 (hp.objs.size + 1) = none := I1.hok.fresh hsz
  have hq := q1 (hp.objs.size + 1) hn
  have kk : ∀ b o, hp.get? b = some o → ((hp.push (PySem.W.kdv_tup us)).push (PySem.HandSPX.excO C hp.objs.size)).get? b = some o := fun b o e => Heap.get?_push_of_some _ (Heap.get?_push_of_some _ e)
  have hget : ((hp.push (PySem.W.kdv_tup us)).push (PySem.HandSPX.excO C hp.objs.size)).get? (hp.objs.size + 1) = some (PySem.HandSPX.excO C hp.objs.size) := by heap_get
  have I2 : Inv X pins σ (upd H1 (hp.objs.size + 1) (exo (hp.objs.size + 1) C none)) ⟨(hp.push (PySem.W.kdv_tup us)).push (PySem.HandSPX.excO C hp.objs.size), g, dr, tk, os⟩ :=
    I1.laid (t' := tk) (a := hp.objs.size + 1) (o := exo (hp.objs.size + 1) C none) (h' := (hp.push (PySem.W.kdv_tup us)).push (PySem.HandSPX.excO C hp.objs.size)) kk hsz (exo_ok hget)
  have r2 : Vals (V.ref (hp.objs.size + 1) :: (vs ++ dvs)) (Value.ref (hp.objs.size + 1) :: (us ++ ds)) := .cons rfl (r1.append hd)
  have hl : (Value.ref (hp.objs.size + 1) :: us ++ ds).length = ps.length := by
    have e := r2.length
    rw [F1.len _ _ _ _ hq] at e
    exact e.symm
  have hus : us.length ≤ sizeLine := by
    rw [← Paired.length r1, sizeLine_eq]
    omega
  refine wpAny_call (PySem.HandSPX.call_own F.excBase_ValueError (fun Y => PySem.HandSPX.refsVE_contains Y bm hbm) (I1.kIn _ _ hC) (PySem.W.looks_findIn I1.kIn iC) (fun self => PySem.W.bind_fn I1.kIn self tI) hus
    (codeAny_mono (F1.run _ X.stack _ _ ⟨Value.ref (hp.objs.size + 1) :: us, []⟩ (Value.ref (hp.objs.size + 1) :: (us ++ ds)) _ _ E (hr.make C us []) (I2.env0.make C us []) (hb _ (Value.ref (hp.objs.size + 1) :: us) I2.kIn hl) r2 hq) fun r s' hq' => ?_))
  cases r with
  | error er => exact hx pins σ _ _ er s' I2 hq'
  | ok fl =>
    cases fl with
    | ret u =>
      obtain ⟨v, H', I3, rv, ev, q3⟩ := I2.after hq'
      subst ev
      exact ⟨rv, ⟨V.ref (hp.objs.size + 1), H', I3, rfl, q3⟩⟩
    | next => exact False.elim hq'
    | brk => exact False.elim hq'
    | cont => exact False.elim hq'
/-- e.f of such an exception -/
def tXv (K : PySem.W.Frag) (f : Str) (te : TE) : TE := fun σ H Q => te σ H fun x H1 => ∃ (a C dx : Addr) (fs : List (Str × V)) (v : V), x = .ref a ∧ XfC K C ∧ PySem.W.findIn K (.ref C) f = some none ∧ H1 a = some (exo a C (some dx)) ∧ H1 dx = some (exd dx fs) ∧ fs.lookup f = some v ∧ Q v H1
theorem pe_xv {o : Expr} {te : TE} {n : Str} (ho : PE X o te) (hb : attributeBase o n X.env (eval o X.env) = eval o X.env := by rfl) : PE X (.Attribute o n pos) (tXv X.K n te) := by
  refine ⟨fun pins s σ H Q I h => ?_⟩
  refine attr_of hb (thn (ho.run pins s σ H _ I h) fun u s1 hh => ?_)
  obtain ⟨x, H1, I1, rx, a, C, dx, fs, v, ex, T, hno, ea, ed, l, q⟩ := hh
  subst ex
  obtain rfl : u = Value.ref a := rx
  obtain ⟨t1, ho1⟩ := exo_at I1.hok ea
  obtain ⟨mA, hns, hr⟩ := exd_at I1.hok ed
  obtain ⟨od, hod, hl⟩ := lookIn_ns hns
  obtain ⟨u, hu, ru⟩ := RelO.some_of (v := v) (o := mA n) (by rw [← l]; exact hr n)
  have J : PySem.W.InstAt s1.heap a _ C (some od) := ⟨ho1, rfl, rfl, hod⟩
  exact HandSPX.exc_get I1.kIn J T.ga T.gg T.exC (PySem.W.findObj_own T.hdC hno rfl (by rw [hl, hu])) (handed_of ru) ⟨v, H1, I1.tok _, ru, q⟩
/-- isinstance(e, c), e an own exception as a value -/
def rIsX (K : PySem.W.Frag) : List V → Hp → VK → Prop := fun xs H Q => ∃ (a D : Addr) (d : Option Addr) (c : V) (cv : Value) (b : Bool), xs = [.ref a, c] ∧ H a = some (exo a D d) ∧ (∀ dx, d = some dx → ∃ fs, H dx = some (exd dx fs)) ∧ ExcC K D ∧ ClsV c cv ∧ PySem.W.kitOne K (.ref D) cv = some b ∧ Q (.bl b) H
theorem call_isX : CallR X (.builtin "isinstance") (rIsX X.K) := by
  intro pins s σ H xs us Q I r h
  obtain ⟨a, D, d, c, cv, b, rfl, ha, hdx, C, k, e, q⟩ := h
  obtain ⟨u1, u2, rfl, r1, r2⟩ := vals2 r
  cases r1
  have e2 := k.eq r2
  subst e2
  obtain ⟨t1, ho⟩ := exo_at I.hok ha
  have J : ∃ od, PySem.W.InstAt s.heap a { cls := .ref D, dict := d, data := .fields #[.ref t1, .none, .none, .none, .bool false, .none] } D od := by
    cases d with
    | none => exact ⟨none, ho, rfl, rfl, trivial⟩
    | some dx =>
      obtain ⟨fs, hf⟩ := hdx dx rfl
      obtain ⟨mA, hns, hr⟩ := exd_at I.hok hf
      obtain ⟨od, hod, hl⟩ := lookIn_ns hns
      exact ⟨some od, ho, rfl, rfl, hod⟩
  obtain ⟨od, J⟩ := J
  have hcl : (PySem.W.clsIn X.K D).isSome = true := by
    obtain ⟨cd, hc, _⟩ := PySem.W.any_some C.hd
    rw [hc]; rfl
  exact PySem.W.kia_one (PySem.W.kitx_exc hcl C.hg C.hk C.hs C.ha C.hn C.ht C.hm) I.kIn J e (fun z => nomatch z) fun tk => ⟨.bl b, H, I.tok tk, rfl, q⟩
/-- X(), an own exception class without own __init__, as a value -/
theorem pe_mkX0 {C : Addr} {bmB : List Value} {B newId initId : String} {x : Str} (F : ExcBaseFacts B newId initId bmB) (q : PySem.W.excIn X.K C bmB newId = true) (gC : X.mg x = some (.ref C)) (kC : PySem.W.keepIn X.K (.ref C) = true) (hg : Gl X x) (hdb : (x == ("__debug__" : Str)) = false := by decide) :
    PE X (.Call (.Name x p) [] [] pos) (fun σ H Q => ∀ a, H a = none → Q (.ref a) (upd H a (exo a C none))) := by
  refine ⟨fun pins s σ H Q I h => ?_⟩
  refine wpAny_Call_Name_kw (ld_glob I hg gC ?_ hdb)
  refine PySem.W.callWith_K0 I.kIn kC ?_
  show wpAny _ _ (call (.ref C) []) _ _ _
  obtain ⟨bm, N, nm, qn, bs, hdct, sn, sub, ab, col, dd, k0, k1, k2, k3, k5, mN, hC, hN, hni, T⟩ := exc_obj I.kIn q
  refine wpAny_call_exc_subT F T hC hN hni (fun h' a hm => ?_) (by show 0 ≤ sizeLine; exact Nat.zero_le _)
  have hn : H a = none := I.hok.gone hm.new
  obtain ⟨t, ht, _, _⟩ := hm.there
  exact ⟨.ref a, upd H a (exo a C none), I.laidN hm.keeps hm.new hn (exo_ok ht), rfl, h a hn⟩
end
end Way

/-! an own exception made by keywords -/
namespace Way
open PySem PySem.Spec PySem.HandSPX PySem.Calls
section
variable {M : Model} {A : Around} {E : Value → Shared → Prop} {h : Heap} {g : Array GenState} {d : Drawn} {t : Nat} {os : OsState}
variable {nm q : Str} {C N : Addr} {bs bm bmB : List Value} {hdct : Bool} {sn : List Str} {sub : List Value} {ab : Bool} {col : Option Bool} {dd : Option Addr} {k0 k1 k2 k3 k5 : Option Value} {B newId initId : String} {kw : List (Str × Value)}
theorem check_new_ownK (F : ExcBaseFacts B newId initId bmB) (hT : ∀ X : String, bm.contains (.type X) = bmB.contains (.type X)) {rest : List Value} {Q : Unit → Shared → Prop}
    (hC : h.get? C = some (excClassObj nm q C N bs bm hdct sn sub ab col dd k0 k1 k2 k3 k5 newId)) (hq : Q () ⟨h, g, d, t, os⟩) : wpAny M A (checkBuiltinCall newId ⟨.ref C :: rest, kw⟩) Q E ⟨h, g, d, t, os⟩ := by
  have hcont : (Value.ref C :: bm).contains (.type B) = true := by rw [List.contains_cons, hT, F.hasB, Bool.or_true]
  have hstar := F.noStar
  simp only [checkBuiltinCall, F.newKind, F.newSplit, F.newRow]
  repeat (first | refine wpAny_loadPart_at hC ?_ | (refine wpAny_isSubtype_exc hC ?_; rw [hcont]) | refine wpAny_staticBase_exc hC ?_ | refine wpAny_madeBy_exc hC ?_ | simp only [bne_self_eq_false, Bool.false_eq_true, if_false] | wp_step)
  exact hq
end
section
variable {prog : Program} {w : World} {A : Around} {E : Value → Shared → Prop} {R : Result → Shared → Prop} {h : Heap} {g : Array GenState} {d : Drawn} {t : Nat} {os : OsState}
variable {nm q : Str} {C N : Addr} {bs bm bmB : List Value} {hdct : Bool} {sn : List Str} {sub : List Value} {ab : Bool} {col : Option Bool} {dd : Option Addr} {k0 k1 k2 k3 k5 : Option Value} {B newId initId : String} {kw : List (Str × Value)}
theorem new_ownK (F : ExcBaseFacts B newId initId bmB) (hT : ∀ X : String, bm.contains (.type X) = bmB.contains (.type X)) {rest : List Value}
    (hC : h.get? C = some (excClassObj nm q C N bs bm hdct sn sub ab col dd k0 k1 k2 k3 k5 newId))
    (hq : R (.ok (.ret (.ref (h.objs.size + 1)))) ⟨(h.push { cls := .type "tuple", data := .seq rest.toArray }).push
      { cls := .ref C, data := .fields #[.ref h.objs.size, .none, .none, .none, .bool false, .none] }, g, d, t, os⟩) (hrest : rest.length ≤ sizeLine) :
    codeAny (model prog w) A (.builtin newId ⟨.ref C :: rest, kw⟩) R ⟨h, g, d, t, os⟩ := by
  have hends := F.ends
  have hcB : (Value.ref C :: bm).contains (.type B) = true := by rw [List.contains_cons, hT, F.hasB, Bool.or_true]
  have hcA : (Value.ref C :: bm).contains (.type "AttributeError") = false := by rw [List.contains_cons, hT, F.noAttr]; rfl
  have hcN : (Value.ref C :: bm).contains (.type "NameError") = false := by rw [List.contains_cons, hT, F.noName]; rfl
  refine codeAny_builtinAt F.entry ?_
  unfold Builtin.«BaseException.__new__»
  refine wpAt_bind ?_
  show wpAt _ _ _ (stack >>= _) _ _ _
  refine wpAt_bind (wpAt_stack fun p below => wpAt_of_wpAny ?_)
  wp_walk
  refine wpAt_of_wpAny ?_
  rw [F.owner]
  repeat (first | with_reducible refine wpAny_madeHere_exc F.canon hC ?_ | with_reducible refine wpAny_loadPart_at hC ?_ | (with_reducible refine wpAny_isSubtype_exc hC ?_; first | rw [hcB] | rw [hcA] | rw [hcN]) | wp_step)
  show R _ _
  rw [Heap.size_push]
  exact hq
theorem type_call_ownK (F : ExcBaseFacts B newId initId bmB) (hT : ∀ X : String, bm.contains (.type X) = bmB.contains (.type X)) {rest : List Value} {fI : Addr} {Q : Fin → Shared → Prop}
    (hC : h.get? C = some (excClassObj nm q C N bs bm hdct sn sub ab col dd k0 k1 k2 k3 k5 newId))
    (hi : W.Looks (model prog w) h (typeLookup (.ref C) "__init__") (some (.ref fI))) (hb : ∀ self, W.Looks (model prog w) h (bindSpecial (.ref fI) self) (.ref fI, [self])) (hrest : rest.length ≤ sizeLine)
    (hq : codeAny (model prog w) A (.call (.ref fI) ⟨.ref (h.objs.size + 1) :: rest, kw⟩)
      (fun r s' => match r with | .ok (.ret v) => v = .none ∧ Q (.done (.ret (.ref (h.objs.size + 1)))) s' | .ok _ => False | .error e => E e s')
      ⟨(h.push (W.kdv_tup rest)).push (excO C h.objs.size), g, d, t, os⟩) :
    wpAny (model prog w) A (Builtin.«type.__call__» ⟨.ref C :: rest, kw⟩) Q E ⟨h, g, d, t, os⟩ := by
  repeat (first | with_reducible refine wpAny_loadPart_at hC ?_ | with_reducible refine wpAny_madeBy_exc hC ?_ | wp_step)
  refine codeAny_call_builtin_code (Code.quiet_builtin _ F.quiet) (check_new_ownK F hT hC ?_)
  refine new_ownK F hT hC ?_ hrest
  show wpAny _ _ _ _ _ _
  have k : ∀ b o, h.get? b = some o → ((h.push (W.kdv_tup rest)).push (excO C h.objs.size)).get? b = some o := fun b o e => Heap.get?_push_of_some _ (Heap.get?_push_of_some _ e)
  have hC₁ := k _ _ hC
  have hget : ((h.push (W.kdv_tup rest)).push (excO C h.objs.size)).get? (h.objs.size + 1) = some (excO C h.objs.size) := by heap_get
  have hcC : (Value.ref C :: bm).contains (.ref C) = true := by simp
  have i1 := hi.keeps k
  have b1 := (hb (.ref (h.objs.size + 1))).keeps k
  unfold isInstance
  repeat (first | with_reducible refine wpAny_loadPart_at hget ?_ | (with_reducible refine wpAny_isSubtype_exc hC₁ ?_; rw [hcC]) | wp_step)
  show wpAny _ _ (typeLookup (.ref C) _) _ _ _
  refine i1.at ?_
  refine wpAny_holding (wpAny_bind (b1.at ?_))
  refine wpAny_bind (wpAny_call (codeAny_mono hq fun r s' z => ?_))
  rcases r with e | (v | _ | _ | _) <;> first | exact z | exact z.elim | skip
  obtain ⟨rfl, z⟩ := z
  first
    | exact wpAny_pure (wpAny_pure z)
    | (wp_walk; exact z)
theorem call_ownK (F : ExcBaseFacts B newId initId bmB) (hT : ∀ X : String, bm.contains (.type X) = bmB.contains (.type X)) {rest : List Value} {fI : Addr}
    (hC : h.get? C = some (excClassObj nm q C N bs bm hdct sn sub ab col dd k0 k1 k2 k3 k5 newId))
    (hi : W.Looks (model prog w) h (typeLookup (.ref C) "__init__") (some (.ref fI))) (hb : ∀ self, W.Looks (model prog w) h (bindSpecial (.ref fI) self) (.ref fI, [self])) (hrest : rest.length ≤ sizeLine)
    (hq : codeAny (model prog w) (A.under (.builtin "type.__call__" ⟨.ref C :: rest, kw⟩)) (.call (.ref fI) ⟨.ref (h.objs.size + 1) :: rest, kw⟩) (W.InitBack (h.objs.size + 1) R)
      ⟨(h.push (W.kdv_tup rest)).push (excO C h.objs.size), g, d, t, os⟩) :
    codeAny (model prog w) A (.call (.ref C) ⟨rest, kw⟩) R ⟨h, g, d, t, os⟩ := by
  have f1 := tc_lookup
  have f2 := tc_bind (.ref C)
  have hTy : (⟨h, g, d, t, os⟩ : Shared).TypeIs (.ref C) "type" := ⟨_, hC, rfl⟩
  refine codeAny_of_tree ?_
  show wpAny _ _ (callAny (.ref C) _) _ _ _
  repeat (any_goals (first | assumption | with_reducible refine wpAny_loadPart_at hC ?_ | wp_step))
  refine ⟨rfl, ?_⟩
  refine codeAny_call_builtin_at (Code.quiet_builtin _ (by decide +kernel)) entry_typeCall (wpAny_check_type_call_sub hC (type_call_ownK F hT hC hi hb hrest ?_))
  refine codeAny_mono hq fun r s' z => ?_
  rcases r with e | (v | _ | _ | _) <;> exact z
end
end Way

namespace Way
open PySem PySem.Spec PyProof.Rows L2
/-- C(k = v, ..) as a value, C an own exception class with its own __init__ -/
def tMkXK (C : Addr) (m : Nat) (sp : Sp) (gV : List V → List V → List V) (E : XK) (tk : TA) : TE := fun σ H Q => tk σ H fun zs H1 => zs.length = m ∧ ∀ a, H1 a = none → sp (gV [.ref a] zs) (upd H1 a (exo a C none)) (fun v H2 => v = .non ∧ Q (.ref a) H2) E
theorem pe_mkXK0 {X : Cx} {kws : List Keyword} {tk : TA} {p pos : Pos} {CX : CXT} {x : Str} {C fI : Addr} {k : Nat} {fd : FuncData} {ps ks : List Str} {sp : Sp} {E : XK} {g : List Value → List Value → List Value} {gV : List V → List V → List V} (T : OexC X.K C) (iC : PySem.W.findIn X.K (.ref C) "__init__" = some (some (.ref fI))) (tI : PySem.W.typeIn X.K (.ref fI) = some (.type "function"))
    (F1 : FnOk X.prog X.w X.K X.mg X.base CX k fI fd ps sp) (hr : Room (k + 1) X.A) (hb : KBn X.K fd ps 1 ks g gV) (hx : Passes CX X E) (hg : Gl X x) (hm : X.mg x = some (.ref C)) (hkw : PK X kws tk)
    (hall : (backToKw pos (keywordEach kws X.env)).all (·.1.isSome) = true := by rfl) (hks : (backToKw pos (keywordEach kws X.env)).filterMap (·.1) = ks := by rfl) (hdb : (x == ("__debug__" : Str)) = false := by decide)
    (hpl : ((backTo pos (starEach [] X.env)).any (·.1) || (backToKw pos (keywordEach kws X.env)).any (·.1.isNone)) = false := by rfl) :
    PE X (.Call (.Name x p) [] kws pos) (tMkXK C ks.length sp gV E tk) := by
  refine ⟨fun pins s σ H Q I h => ?_⟩
  obtain ⟨nm, q, N, bs, bm, sn, sub, ab, col, dd, k0, k1, k2, k3, k5, hC, hbm⟩ := T.cls
  refine wpAny_Call_Name_kw (ld_glob I hg hm ?_ hdb)
  refine PySem.W.callWith_KW0 (h₀ := X.base) I.ok.mod.kin T.kC hall ?_ hpl
  refine thn (hkw.run pos pins s σ H _ I h) fun ws s1 ⟨zs, H1, I1, rz, l2, q1⟩ => ⟨I1.kIn, ?_⟩
  rw [hks]
  obtain ⟨hp, gg, dr, tk', os⟩ := s1
  have hsz : hp.objs.size ≤ hp.objs.size + 1 := Nat.le_succ _
  have hn : H1 (hp.objs.size + 1) = none := I1.hok.fresh hsz
  have hq := q1 (hp.objs.size + 1) hn
  have kk : ∀ b o, hp.get? b = some o → ((hp.push (PySem.W.kdv_tup [])).push (PySem.HandSPX.excO C hp.objs.size)).get? b = some o := fun b o e => Heap.get?_push_of_some _ (Heap.get?_push_of_some _ e)
  have hget : ((hp.push (PySem.W.kdv_tup [])).push (PySem.HandSPX.excO C hp.objs.size)).get? (hp.objs.size + 1) = some (PySem.HandSPX.excO C hp.objs.size) := by heap_get
  have I2 : Inv X pins σ (upd H1 (hp.objs.size + 1) (exo (hp.objs.size + 1) C none)) ⟨(hp.push (PySem.W.kdv_tup [])).push (PySem.HandSPX.excO C hp.objs.size), gg, dr, tk', os⟩ :=
    I1.laid (t' := tk') (a := hp.objs.size + 1) (o := exo (hp.objs.size + 1) C none) (h' := (hp.push (PySem.W.kdv_tup [])).push (PySem.HandSPX.excO C hp.objs.size)) kk hsz (exo_ok hget)
  have r1 : Vals [V.ref (hp.objs.size + 1)] [Value.ref (hp.objs.size + 1)] := .cons rfl .nil
  have r2 := hb.rel r1 rz
  refine wpAny_call (call_ownK F.excBase_ValueError (fun Y => PySem.HandSPX.refsVE_contains Y bm hbm) (I1.kIn _ _ hC) (PySem.W.looks_findIn I1.kIn iC) (fun self => PySem.W.bind_fn I1.kIn self tI) (rest := []) (by show 0 ≤ sizeLine; exact Nat.zero_le _)
    (codeAny_mono (F1.run _ X.stack _ _ ⟨[Value.ref (hp.objs.size + 1)], ks.zip ws⟩ (g [Value.ref (hp.objs.size + 1)] ws) _ _ E (hr.make C [] (ks.zip ws)) (I2.env0.make C [] (ks.zip ws)) (hb.to _ [Value.ref (hp.objs.size + 1)] ws I2.kIn rfl (rz.length.symm.trans l2)) r2 hq) fun r s' hq' => ?_))
  cases r with
  | error er => exact hx pins σ _ _ er s' I2 hq'
  | ok fl =>
    cases fl with
    | ret u =>
      obtain ⟨v, H', I3, rv, ev, q3⟩ := I2.after hq'
      subst ev
      exact ⟨rv, ⟨V.ref (hp.objs.size + 1), H', I3, rfl, q3⟩⟩
    | next => exact False.elim hq'
    | brk => exact False.elim hq'
    | cont => exact False.elim hq'
end Way

/-! own exception classes over one own root class over ValueError -/
namespace Way
open PySem PySem.Spec PyProof.Rows L2
abbrev veT : List Value := [.type "ValueError", .type "Exception", .type "BaseException", .type "object"]
/-- the class object: its name, its mro behind itself, its namespace -/
def XLk (K : PySem.W.Frag) (nm : Str) (C N : Addr) (bm : List Value) : Prop :=
  ∃ q bs sn sub ab col dd k0 k1 k2 k3 k5, K.lookup C = some (excClassObj nm q C N bs bm true sn sub ab col dd k0 k1 k2 k3 k5 "ValueError.__new__")
structure XRoot (K : PySem.W.Frag) (W N : Addr) : Prop where
  lk : XLk K "WayError" W N veT
  ini : PySem.W.nsIn K N "__init__" = some none
structure XCls (K : PySem.W.Frag) (nm : Str) (C N W : Addr) : Prop where
  lk : XLk K nm C N (.ref W :: veT)
  sa : PySem.W.findIn K (.ref C) "__setattr__" = some (some (.builtin "object.__setattr__"))
  ga : PySem.W.findIn K (.ref C) "__getattribute__" = some (some (.builtin "BaseException.__getattribute__"))
  gg : PySem.W.findIn K (.ref C) "__getattr__" = some none
  ha : PySem.W.findIn K (.ref C) "__class__" = some (some (.builtin "object.__class__"))
  kC : PySem.W.keepIn K (.ref C) = true
structure XAll (K : PySem.W.Frag) : Prop where
  hn : PySem.W.specialIn K (.builtin "object.__class__") "__get__" = some (some (.builtin "getset_descriptor.__get__"))
  ht : PySem.W.takesIn K (.builtin "object.__class__") = some true
  opq : PySem.W.nsIn K cStatics "thirdparty.any" = some none
section
variable {K : PySem.W.Frag} {nm nm' : Str} {C D N N' W NW : Addr} {bm bm' : List Value}
theorem XLk.cls (h : XLk K nm C N bm) : ∃ cd, PySem.W.clsIn K C = some cd ∧ cd.mro = .ref C :: bm ∧ cd.hasDict = true ∧ cd.name = nm ∧ cd.ns = N := by
  obtain ⟨q, bs, sn, sub, ab, col, dd, k0, k1, k2, k3, k5, e⟩ := h
  refine ⟨{ name := nm, bases := bs, mro := .ref C :: bm, ns := N, qualname := q, hasDict := true, slotNames := sn, subclasses := sub, abstract := ab, collection := col, hasDel := false }, ?_, rfl, rfl, rfl, rfl⟩
  unfold PySem.W.clsIn
  rw [e]
theorem XLk.ty (h : XLk K nm C N bm) : PySem.W.typeIn K (.ref C) = some (.type "type") := by
  obtain ⟨q, bs, sn, sub, ab, col, dd, k0, k1, k2, k3, k5, e⟩ := h
  show Option.map (fun x => x.cls) (K.lookup C) = _
  rw [e]
  rfl
theorem XLk.sub (h : XLk K nm C N bm) (v : Value) : PySem.W.subIn K (.ref C) v = some ((Value.ref C :: bm).contains v) := by
  obtain ⟨cd, e, m, _⟩ := h.cls
  show PySem.W.mroIn K C v = _
  unfold PySem.W.mroIn
  rw [e, Option.bind_some, m]
  rfl
theorem XLk.ne (h : XLk K nm C N bm) (h' : XLk K nm' D N' bm') (e : nm ≠ nm') : C ≠ D := fun z => by
  obtain ⟨cd, a, _, _, b, _⟩ := h.cls
  obtain ⟨cd', a', _, _, b', _⟩ := h'.cls
  subst z
  rw [a] at a'
  cases a'
  exact e (b.symm.trans b')
theorem XLk.hd (h : XLk K nm C N bm) : PySem.W.hasDictIn K C = true := by
  obtain ⟨cd, e, _, m, _⟩ := h.cls
  unfold PySem.W.hasDictIn
  rw [e]
  exact m
theorem XLk.kit (h : XLk K nm C N bm) (h' : XLk K nm' D N' bm') : PySem.W.kitCls K (.ref C) (.ref D) = some ((Value.ref C :: bm).contains (.ref D)) := by
  obtain ⟨cd, e, _⟩ := h'.cls
  show (if ((PySem.W.clsIn K D).isSome && PySem.W.typeIn K (.ref D) == some (.type "type")) = true then PySem.W.subIn K (.ref C) (.ref D) else none) = _
  rw [e, h'.ty, h.sub]
  rfl
theorem XLk.one (h : XLk K nm C N bm) (h' : XLk K nm' D N' bm') : PySem.W.kitOne K (.ref C) (.ref D) = some ((Value.ref C :: bm).contains (.ref D)) := by
  unfold PySem.W.kitOne
  split
  · rename_i z
    have z' := beq_iff_eq.mp z
    rw [← z']
    simp
  · exact h.kit h'
theorem XLk.oneT (h : XLk K nm C N bm) {T : String} (m : PySem.W.kitMeta T = true) : PySem.W.kitOne K (.ref C) (.type T) = some ((Value.ref C :: bm).contains (.type T)) := by
  unfold PySem.W.kitOne
  rw [if_neg (by intro z; cases beq_iff_eq.mp z)]
  show (if PySem.W.kitMeta T = true then PySem.W.subIn K (.ref C) (.type T) else none) = _
  rw [if_pos m, h.sub]
theorem veT_sub {T : String} (h : veT.contains (.type T) = true) : (Value.ref C :: .ref W :: veT).contains (.type T) = true := by
  rw [List.contains_cons, List.contains_cons, h]; simp
theorem XLk.exm (h : XLk K nm C N bm) (h' : XLk K nm' D N' bm') (b : (Value.ref D :: bm').contains (.type "BaseException") = true) : PySem.W.exmOne K (.ref C) (.ref D) = some ((Value.ref C :: bm).contains (.ref D)) := by
  unfold PySem.W.exmOne
  rw [h'.sub, b, if_pos (by rfl), h.kit h']
theorem XCls.exmSelf (h : XCls K nm C N W) : PySem.W.exmOne K (.ref C) (.ref C) = some true := by
  rw [h.lk.exm h.lk (veT_sub (by decide +kernel))]
  simp
theorem XCls.exmRoot (h : XCls K nm C N W) (r : XRoot K W NW) : PySem.W.exmOne K (.ref C) (.ref W) = some true := by
  rw [h.lk.exm r.lk (by rw [List.contains_cons, show veT.contains (.type "BaseException") = true by decide +kernel]; simp)]
  simp
theorem XCls.exmOther (h : XCls K nm C N W) (h' : XCls K nm' D N' W) (r : XRoot K W NW) (e : nm ≠ nm') (e' : nm' ≠ "WayError") : PySem.W.exmOne K (.ref C) (.ref D) = some false := by
  rw [h.lk.exm h'.lk (veT_sub (by decide +kernel))]
  have n1 := h.lk.ne h'.lk e
  have n2 := h'.lk.ne r.lk e'
  simp [Ne.symm n1, n2]
theorem XCls.kitRoot (h : XCls K nm C N W) (r : XRoot K W NW) : PySem.W.kitOne K (.ref C) (.ref W) = some true := by
  rw [h.lk.one r.lk]; simp
theorem XCls.kitVE (h : XCls K nm C N W) : PySem.W.kitOne K (.ref C) (.type "ValueError") = some true := by
  rw [h.lk.oneT (by decide +kernel), veT_sub (by decide +kernel)]
theorem XCls.kitSelf (h : XCls K nm C N W) : PySem.W.kitOne K (.ref C) (.ref C) = some true := by
  rw [h.lk.one h.lk]; simp
theorem XCls.kitOther (h : XCls K nm C N W) (h' : XCls K nm' D N' W) (r : XRoot K W NW) (e : nm ≠ nm') (e' : nm' ≠ "WayError") : PySem.W.kitOne K (.ref C) (.ref D) = some false := by
  rw [h.lk.one h'.lk]
  have n1 := h.lk.ne h'.lk e
  have n2 := h'.lk.ne r.lk e'
  simp [Ne.symm n1, n2]
theorem XCls.oex (h : XCls K nm C N W) : OexC K C := by
  refine ⟨?_, h.sa, (h.lk.sub _).trans (by rw [veT_sub (by decide +kernel)]), h.lk.ty, h.kC⟩
  obtain ⟨q, bs, sn, sub, ab, col, dd, k0, k1, k2, k3, k5, e⟩ := h.lk
  exact ⟨_, _, _, _, _, _, _, _, _, _, _, _, _, _, _, e, rfl⟩
theorem XCls.xf (h : XCls K nm C N W) : XfC K C := ⟨h.ga, h.gg, (h.lk.sub _).trans (by rw [veT_sub (by decide +kernel)]), h.lk.hd⟩
theorem XCls.ex (h : XCls K nm C N W) (a : XAll K) : ExcC K C :=
  ⟨h.ga, h.gg, (h.lk.sub _).trans (by rw [veT_sub (by decide +kernel)]), h.lk.hd, h.ha, a.hn, a.ht, (h.lk.sub _).trans (by rw [veT_sub (by decide +kernel)])⟩
theorem XCls.sup (h : XCls K nm C N W) (r : XRoot K W NW) : PySem.W.ks_superIn K C C "__init__" = some (some (.builtin "ValueError.__init__")) := by
  obtain ⟨cd, e, m, _⟩ := h.lk.cls
  obtain ⟨cw, ew, mw, _, _, nw⟩ := r.lk.cls
  have e1 : ((Value.ref C :: Value.ref W :: veT).dropWhile (· != .ref C)).drop 1 = Value.ref W :: veT := by simp [List.dropWhile_cons]
  unfold PySem.W.ks_superIn
  rw [e, Option.bind_some, m, e1]
  have e2 : PySem.W.ownIn K "__init__" (.ref W) = some none := by
    have q := r.ini
    rw [← nw] at q
    unfold PySem.W.clsIn at ew
    split at ew
    · rename_i z
      cases ew
      show (match K.lookup W with | some ⟨_, _, .cls cd, _⟩ => PySem.W.nsIn K cd.ns "__init__" | _ => none) = _
      rw [z]
      exact q
    · cases ew
  show (match PySem.W.ownIn K "__init__" (.ref W) with | some (some v) => some (some v) | some none => PySem.W.alongIn K "__init__" veT | none => none) = _
  rw [e2]
  kernel_rfl
theorem XCls.supFn {prog : Program} {name qual : Str} {st : Stmt} {f c cc : Addr} {fd : FuncData} (h : XCls K nm C N W) (r : XRoot K W NW) (a : XAll K)
    (ex : ∃ (oc kV doc pm ct : Value) (od an : Option Addr) (osl : Array (Option Value)), fd = PySem.W.fnX name qual (defArgs st) (defBody st) (defScope st) [("__class__", cc)] .none kV doc pm an (.ref c) ct ∧ K.lookup f = some ⟨oc, od, .func fd, osl⟩)
    (cd : PySem.W.codeIn K (.ref c) qual = true)
    (file : ∃ (ccl : Value) (cdd : Option Addr) (vs : Array Value) (ccs : Array (Option Value)) (file : Str) (tf : Tok), K.lookup c = some ⟨ccl, cdd, .fields vs, ccs⟩ ∧ vs[2]? = some (.str file tf) ∧ ((prog.main.file : Str) == file) = true)
    (cell : ∃ (cl : Value) (cld : Option Addr) (csl : Array (Option Value)), K.lookup cc = some ⟨cl, cld, .cell (some (.ref C)), csl⟩) (top : (prog.main.scope.names.lookup ("super" : Str)).isSome = false) : SupFn K prog name qual st f fd C c cc :=
  ⟨ex, cd, file, cell, (h.lk.sub _).trans (by simp), a.opq, h.sup r, (h.lk.sub _).trans (by rw [veT_sub (by decide +kernel)]), top⟩
end
/-! inits that keep what they are given -/
def spX1 (C : Addr) (f : Str) : Sp := fun vs H Q _ => ∃ a v, vs = [.ref a, v] ∧ H a = some (exo a C none) ∧ ∀ dx, H dx = none → dx ≠ a → Q .non (upd (upd H dx (exd dx [(f, v)])) a (exo a C (some dx)))
def spX2 (C : Addr) (f g : Str) : Sp := fun vs H Q _ => ∃ a v w, vs = [.ref a, v, w] ∧ H a = some (exo a C none) ∧ ∀ dx, H dx = none → dx ≠ a → Q .non (upd (upd (upd H dx (exd dx [(f, v)])) a (exo a C (some dx))) dx (exd dx [(g, w), (f, v)]))
section
variable {K : PySem.W.Frag} {C : Addr} {f g : Str} {H : Hp} {a : Addr} {v w : V} {Q : VK} {z : Option V}
theorem init1 (T : OexC K C) (hno : PySem.W.findIn K (.ref C) f = some none) (ha : H a = some (exo a C none)) (k : ∀ dx, H dx = none → dx ≠ a → Q .non (upd (upd H dx (exd dx [(f, v)])) a (exo a C (some dx)))) {ct bk : L2.St → Hp → Prop} :
    tOst K f (tVar 0) (tVar 1) { nx := fun _ H' => Q .non H', rt := Q, bk := bk, ct := ct } [some (.ref a), some v, z] H :=
  ⟨_, rfl, _, rfl, a, C, rfl, T, hno, .inl ⟨ha, k⟩⟩
end
end Way

/-! readings of own exceptions -/
namespace Way
open PySem PySem.Spec PyProof.Rows L2 Evl
theorem log_le {b : Int} (h0 : 0 < b) (h1 : b ≤ 10000000000000000) : b.natAbs.log2 < 9000 := by
  have h2 : b.natAbs < 2 ^ 60 := by omega
  have := (Nat.log2_lt (n := b.natAbs) (k := 60) (by omega)).mpr h2
  omega
section
variable {K : PySem.W.Frag} {C : Addr} {f g : Str} {H : Hp} {a : Addr} {v w : V} {Q : VK} {z : Option V}
theorem init2 (T : OexC K C) (hno : PySem.W.findIn K (.ref C) f = some none) (hnog : PySem.W.findIn K (.ref C) g = some none) (ha : H a = some (exo a C none)) (k : ∀ dx, H dx = none → dx ≠ a → Q .non (upd (upd (upd H dx (exd dx [(f, v)])) a (exo a C (some dx))) dx (exd dx [(g, w), (f, v)]))) {ct bk : L2.St → Hp → Prop} :
    tSeq (tOst K f (tVar 0) (tVar 1)) (tOst K g (tVar 0) (tVar 2)) { nx := fun _ H' => Q .non H', rt := Q, bk := bk, ct := ct } [some (.ref a), some v, some w, z] H :=
  ⟨_, rfl, _, rfl, a, C, rfl, T, hno, .inl ⟨ha, fun dx hd hn => ⟨_, rfl, _, rfl, a, C, rfl, T, hnog, .inr ⟨dx, _, upd_same, (upd_ne hn).trans upd_same, (by decide : 1 ≤ 900), k dx hd hn⟩⟩⟩⟩
end
/-- raise X(), an own exception class without own __init__ -/
theorem pmk_own0 {X : Cx} {C : Addr} {bmB : List Value} {B newId initId : String} {x : Str} {p pos : Pos} (F : ExcBaseFacts B newId initId bmB) (q : PySem.W.excIn X.K C bmB newId = true) (gC : X.mg x = some (.ref C)) (kC : PySem.W.keepIn X.K (.ref C) = true) (r : Raises X (.ref C)) (hg : Gl X x)
    (hdb : (x == ("__debug__" : Str)) = false := by decide) : PMk X (.Call (.Name x p) [] [] pos) (fun _ H Q => Q (.ref C) none H) := by
  intro pins s σ H Q I h
  refine wpAny_Call_Name_kw (ld_glob I hg gC ?_ hdb)
  refine PySem.W.callWith_K0 I.kIn kC ?_
  show wpAny _ _ (call (.ref C) []) _ _ _
  obtain ⟨bm, N, nm, qn, bs, hdct, sn, sub, ab, col, dd, k0, k1, k2, k3, k5, mN, hC, hN, hni, T⟩ := exc_obj I.kIn q
  refine wpAny_call_exc_subT F T hC hN hni (fun h' e hm => ?_) (by show 0 ≤ sizeLine; exact Nat.zero_le _)
  exact mk_of I hm r h (I.hok.gone hm.new)
theorem takes0 {X : Cx} : Takes X (fun _ _ _ _ => False) := fun _ _ x => by
  obtain ⟨_, _, _, _, _, _, _, _, _, _, _, _, _, _, _, _, z⟩ := x
  exact z.elim
/-! what is evaluated holds P -/
def EvX (te : TE) (σ : L2.St) (H : Hp) (P : V → Hp → Prop) : Prop := ∀ H1, Ex H H1 → ∀ Q : VK, (∀ v H2, Ex H1 H2 → P v H2 → Q v H2) → te σ H1 Q
def EvXA (ta : TA) (σ : L2.St) (H : Hp) (P : List V → Hp → Prop) : Prop := ∀ H1, Ex H H1 → ∀ Q : List V → Hp → Prop, (∀ v H2, Ex H1 H2 → P v H2 → Q v H2) → ta σ H1 Q
section
variable {σ : L2.St} {H : Hp} {te tb : TE} {ta tr : TA} {D : Ends} {tz : TS}
theorem EvX.of {v : V} {P : V → Hp → Prop} (h : Ev te σ H v) (p : ∀ H1, Ex H H1 → P v H1) : EvX te σ H P := fun H1 e Q q => h H1 e Q fun H2 e2 => q v H2 e2 (p H2 (e.trans e2))
theorem EvX.to {P R : V → Hp → Prop} (h : EvX te σ H P) (r : ∀ v H1, Ex H H1 → P v H1 → R v H1) : EvX te σ H R := fun H1 e Q q => h H1 e Q fun v H2 e2 p => q v H2 e2 (r v H2 (e.trans e2) p)
theorem exa_nil {P : List V → Hp → Prop} (p : ∀ H1, P [] H1) : EvXA tNil σ H P := fun H1 _ _ q => q [] H1 (Ex.refl H1) (p H1)
theorem exa_cons {P : V → Hp → Prop} {R S : List V → Hp → Prop} (h : EvX te σ H P) (hr : EvXA tr σ H R) (m : ∀ v H1 H2, Ex H1 H2 → P v H1 → P v H2) (s : ∀ v vs H1, P v H1 → R vs H1 → S (v :: vs) H1) : EvXA (tCons te tr) σ H S := fun H1 e Q q =>
  h H1 e _ fun v H2 e2 p => hr H2 (e.trans e2) _ fun vs H3 e3 r => q _ H3 (e2.trans e3) (s v vs H3 (m v H2 H3 e3 p) r)
theorem ex_lst {R : List V → Hp → Prop} (h : EvXA ta σ H R) (m : ∀ v H1 H2, Ex H1 H2 → R v H1 → R v H2) (hl : ∀ vs H1, R vs H1 → vs.length ≤ 100000) : EvX (tLst ta) σ H (fun v H' => ∃ p xs, v = .ref p ∧ H' p = some (.lst xs) ∧ R xs H') := fun H1 e Q q =>
  h H1 e _ fun xs H2 e2 r => ⟨sz_of (hl xs H2 r), fun p hp => q _ _ (e2.trans (Ex.new hp)) ⟨p, xs, rfl, upd_same, m xs H2 _ (Ex.new hp) r⟩⟩
theorem ex_tup {R : List V → Hp → Prop} (h : EvXA ta σ H R) (m : ∀ v H1 H2, Ex H1 H2 → R v H1 → R v H2) (hl : ∀ vs H1, R vs H1 → vs.length ≤ 100000) : EvX (tTup ta) σ H (fun v H' => ∃ p xs, v = .ref p ∧ H' p = some (.tup xs) ∧ R xs H') := fun H1 e Q q =>
  h H1 e _ fun xs H2 e2 r => ⟨sz_of (hl xs H2 r), fun p hp => q _ _ (e2.trans (Ex.new hp)) ⟨p, xs, rfl, upd_same, m xs H2 _ (Ex.new hp) r⟩⟩
theorem ex_cat {R S : List V → Hp → Prop} (h : EvX te σ H (fun v H' => ∃ p xs, v = .ref p ∧ H' p = some (.lst xs) ∧ R xs H')) (h2 : EvX tb σ H (fun v H' => ∃ p xs, v = .ref p ∧ H' p = some (.lst xs) ∧ S xs H')) (m : ∀ v H1 H2, Ex H1 H2 → R v H1 → R v H2) (m2 : ∀ v H1 H2, Ex H1 H2 → S v H1 → S v H2) (hl : ∀ vs H1, R vs H1 → vs.length ≤ 50000) (hl2 : ∀ vs H1, S vs H1 → vs.length ≤ 50000) :
    EvX (tOp rCat te tb) σ H (fun v H' => ∃ p zs, v = .ref p ∧ H' p = some (.lst zs) ∧ ∃ xs ys, zs = xs ++ ys ∧ R xs H' ∧ S ys H') := fun H1 e Q q =>
  h H1 e _ fun v H2 e2 ⟨p, xs, ev, hp, hr⟩ => h2 H2 (e.trans e2) _ fun w H3 e3 ⟨p', ys, ew, hp', hs⟩ => by
    refine ⟨p, p', xs, ys, ev, ew, e3 _ _ hp, hp', ?_, fun t ht => ?_⟩
    · have h1 := hl _ _ hr
      have h2 := hl2 _ _ hs
      first | exact sz_of (by rw [List.length_append]; omega) | exact sz_of (by omega)
    · exact q _ _ ((e2.trans e3).trans (Ex.new ht)) ⟨t, _, rfl, upd_same, xs, ys, rfl, m xs _ _ (e3.trans (Ex.new ht)) hr, m2 ys _ _ (Ex.new ht) hs⟩
theorem x_asg {P : V → Hp → Prop} {i : Nat} (h : EvX te σ H P) (k : ∀ v H1, Ex H H1 → P v H1 → tz D (σ.set i (some v)) H1) : tSeq (tAsg te (gName i)) tz D σ H := h H (Ex.refl H) _ fun v H1 e p => k v H1 e p
theorem x_ret {P : V → Hp → Prop} (h : EvX te σ H P) (k : ∀ v H1, Ex H H1 → P v H1 → D.rt v H1) : tRet te D σ H := h H (Ex.refl H) _ fun v H1 e p => k v H1 e p
end
/-! own exceptions -/
section
variable {K : PySem.W.Frag} {σ : L2.St} {H : Hp} {te : TE} {ta tk : TA} {E : XK} {C : Addr} {f g : Str}
/-- at e: an own error of the class C, its fields -/
def ErrF (C : Addr) (fs : List (Str × V)) (v : V) (H : Hp) : Prop := ∃ e dx, v = .ref e ∧ H e = some (exo e C (some dx)) ∧ H dx = some (exd dx fs)
theorem ErrF.mono {fs : List (Str × V)} {v : V} {H H' : Hp} (x : Ex H H') (h : ErrF C fs v H) : ErrF C fs v H' := let ⟨e, dx, h1, h2, h3⟩ := h; ⟨e, dx, h1, x _ _ h2, x _ _ h3⟩
theorem ex_mk1 {v : V} (h : EvA ta σ H [v]) : EvX (tMkX C (spX1 C f) [] E ta) σ H (ErrF C [(f, v)]) := fun H1 e Q q =>
  h H1 e _ fun H2 e2 => ⟨(by decide : 1 ≤ 1000), fun a ha => ⟨a, v, rfl, upd_same, fun dx hd hn => ⟨rfl, by
    have hd' : H2 dx = none := by rw [upd_ne hn] at hd; exact hd
    refine q _ _ (e2.trans ?_) ⟨a, dx, rfl, upd_same, (upd_ne hn).trans upd_same⟩
    intro b o eb
    have ba := ne_of_none eb ha
    have bd := ne_of_none eb hd'
    rw [upd_ne ba, upd_ne bd, upd_ne ba]
    exact eb⟩⟩⟩
theorem ex_mk2 {v w : V} (h : EvA ta σ H [v, w]) : EvX (tMkX C (spX2 C f g) [] E ta) σ H (ErrF C [(g, w), (f, v)]) := fun H1 e Q q =>
  h H1 e _ fun H2 e2 => ⟨(by decide : 2 ≤ 1000), fun a ha => ⟨a, v, w, rfl, upd_same, fun dx hd hn => ⟨rfl, by
    have hd' : H2 dx = none := by rw [upd_ne hn] at hd; exact hd
    refine q _ _ (e2.trans ?_) ⟨a, dx, rfl, (upd_ne (Ne.symm hn)).trans upd_same, upd_same⟩
    intro b o eb
    have ba := ne_of_none eb ha
    have bd := ne_of_none eb hd'
    rw [upd_ne bd, upd_ne ba, upd_ne bd, upd_ne ba]
    exact eb⟩⟩⟩
theorem ex_mkK1 {gV : List V → List V → List V} {zs : List V} {m : Nat} {v : V} (h : EvA tk σ H zs) (hm : zs.length = m) (hv : ∀ a, gV [.ref a] zs = [.ref a, v]) : EvX (tMkXK C m (spX1 C f) gV E tk) σ H (ErrF C [(f, v)]) := fun H1 e Q q =>
  h H1 e _ fun H2 e2 => ⟨hm, fun a ha => by
    rw [hv]
    refine ⟨a, v, rfl, upd_same, fun dx hd hn => ⟨rfl, ?_⟩⟩
    have hd' : H2 dx = none := by rw [upd_ne hn] at hd; exact hd
    refine q _ _ (e2.trans ?_) ⟨a, dx, rfl, upd_same, (upd_ne hn).trans upd_same⟩
    intro b o eb
    have ba := ne_of_none eb ha
    have bd := ne_of_none eb hd'
    rw [upd_ne ba, upd_ne bd, upd_ne ba]
    exact eb⟩
theorem ex_mkK2 {gV : List V → List V → List V} {zs : List V} {m : Nat} {v w : V} (h : EvA tk σ H zs) (hm : zs.length = m) (hv : ∀ a, gV [.ref a] zs = [.ref a, v, w]) : EvX (tMkXK C m (spX2 C f g) gV E tk) σ H (ErrF C [(g, w), (f, v)]) := fun H1 e Q q =>
  h H1 e _ fun H2 e2 => ⟨hm, fun a ha => by
    rw [hv]
    refine ⟨a, v, w, rfl, upd_same, fun dx hd hn => ⟨rfl, ?_⟩⟩
    have hd' : H2 dx = none := by rw [upd_ne hn] at hd; exact hd
    refine q _ _ (e2.trans ?_) ⟨a, dx, rfl, (upd_ne (Ne.symm hn)).trans upd_same, upd_same⟩
    intro b o eb
    have ba := ne_of_none eb ha
    have bd := ne_of_none eb hd'
    rw [upd_ne bd, upd_ne ba, upd_ne bd, upd_ne ba]
    exact eb⟩
theorem ev_xv {fs : List (Str × V)} {u v : V} (h : Ev te σ H u) (x : ErrF C fs u H) (T : XfC K C) (hno : PySem.W.findIn K (.ref C) f = some none) (l : fs.lookup f = some v) : Ev (tXv K f te) σ H v := fun H1 e Q q =>
  h H1 e _ fun H2 e2 => by
    obtain ⟨a, dx, rfl, h1, h2⟩ := x
    have e3 := e.trans e2
    exact ⟨a, C, dx, fs, v, rfl, T, hno, e3 _ _ h1, e3 _ _ h2, l, q H2 e2⟩
/-- an own error of the class C -/
def Err (C : Addr) (v : V) (H : Hp) : Prop := ∃ e d, v = .ref e ∧ H e = some (exo e C d) ∧ ∀ dx, d = some dx → ∃ fs, H dx = some (exd dx fs)
theorem Err.mono {v : V} {H H' : Hp} (x : Ex H H') (h : Err C v H) : Err C v H' := let ⟨e, d, h1, h2, h3⟩ := h; ⟨e, d, h1, x _ _ h2, fun dx q => let ⟨fs, r⟩ := h3 dx q; ⟨fs, x _ _ r⟩⟩
theorem ErrF.err {fs : List (Str × V)} {v : V} (h : ErrF C fs v H) : Err C v H := let ⟨e, dx, h1, h2, h3⟩ := h; ⟨e, some dx, h1, h2, fun dy q => by cases q; exact ⟨fs, h3⟩⟩
theorem ex_mk0 : EvX (fun σ H Q => ∀ a, H a = none → Q (.ref a) (upd H a (exo a C none))) σ H (Err C) := fun H1 e Q q a ha => q _ _ (Ex.new ha) ⟨a, none, rfl, upd_same, fun dx z => nomatch z⟩
theorem rc_isX {v c : V} {cv : Value} {b : Bool} (x : Err C v H) (T : ExcC K C) (k : ClsV c cv) (e : PySem.W.kitOne K (.ref C) cv = some b) : RC (rIsX K) [v, c] H (.bl b) := fun H1 e1 Q q => by
  obtain ⟨a, d, rfl, h1, h2⟩ := x.mono e1
  exact ⟨a, C, d, c, cv, b, rfl, h1, h2, T, k, e, q H1 (Ex.refl H1)⟩
end
end Way

namespace K00
open PySem L2 Way Evl
def top (i : Nat) : Stmt := PySem.Challenge.pw_waypairs_k00_errors_and_their_fields.main.body.getD i (.Pass ⟨0, 0, 0, 0⟩)
abbrev s_BadField_init : Stmt := inClass (top 2) 0
abbrev N_BadField_init : List Str := ["self", "name", "__class__"]
abbrev P_BadField_init : List Str := ["self", "name"]
theorem sc_BadField_init : NdefX.NScope N_BadField_init P_BadField_init ["__class__"] (defScope s_BadField_init) := NdefX.nscope_by (by decide +kernel)
abbrev s_BadKind_init : Stmt := inClass (top 3) 0
abbrev N_BadKind_init : List Str := ["self", "name", "__class__"]
abbrev P_BadKind_init : List Str := ["self", "name"]
theorem sc_BadKind_init : NdefX.NScope N_BadKind_init P_BadKind_init ["__class__"] (defScope s_BadKind_init) := NdefX.nscope_by (by decide +kernel)
abbrev s_BadHouse_init : Stmt := inClass (top 4) 0
abbrev N_BadHouse_init : List Str := ["self", "name", "__class__"]
abbrev P_BadHouse_init : List Str := ["self", "name"]
theorem sc_BadHouse_init : NdefX.NScope N_BadHouse_init P_BadHouse_init ["__class__"] (defScope s_BadHouse_init) := NdefX.nscope_by (by decide +kernel)
abbrev s_UnknownKind_init : Stmt := inClass (top 5) 0
abbrev N_UnknownKind_init : List Str := ["self", "name", "__class__"]
abbrev P_UnknownKind_init : List Str := ["self", "name"]
theorem sc_UnknownKind_init : NdefX.NScope N_UnknownKind_init P_UnknownKind_init ["__class__"] (defScope s_UnknownKind_init) := NdefX.nscope_by (by decide +kernel)
abbrev s_UnknownField_init : Stmt := inClass (top 6) 0
abbrev N_UnknownField_init : List Str := ["self", "kind", "name", "__class__"]
abbrev P_UnknownField_init : List Str := ["self", "kind", "name"]
theorem sc_UnknownField_init : NdefX.NScope N_UnknownField_init P_UnknownField_init ["__class__"] (defScope s_UnknownField_init) := NdefX.nscope_by (by decide +kernel)
abbrev s_BadWeb_init : Stmt := inClass (top 7) 0
abbrev N_BadWeb_init : List Str := ["self", "thing", "__class__"]
abbrev P_BadWeb_init : List Str := ["self", "thing"]
theorem sc_BadWeb_init : NdefX.NScope N_BadWeb_init P_BadWeb_init ["__class__"] (defScope s_BadWeb_init) := NdefX.nscope_by (by decide +kernel)
abbrev s_BadText_init : Stmt := inClass (top 8) 0
abbrev N_BadText_init : List Str := ["self", "line", "__class__"]
abbrev P_BadText_init : List Str := ["self", "line"]
theorem sc_BadText_init : NdefX.NScope N_BadText_init P_BadText_init ["__class__"] (defScope s_BadText_init) := NdefX.nscope_by (by decide +kernel)
abbrev s_BadManner_init : Stmt := inClass (top 9) 0
abbrev N_BadManner_init : List Str := ["self", "name", "__class__"]
abbrev P_BadManner_init : List Str := ["self", "name"]
theorem sc_BadManner_init : NdefX.NScope N_BadManner_init P_BadManner_init ["__class__"] (defScope s_BadManner_init) := NdefX.nscope_by (by decide +kernel)
abbrev s_BadClient_init : Stmt := inClass (top 10) 0
abbrev N_BadClient_init : List Str := ["self", "line", "__class__"]
abbrev P_BadClient_init : List Str := ["self", "line"]
theorem sc_BadClient_init : NdefX.NScope N_BadClient_init P_BadClient_init ["__class__"] (defScope s_BadClient_init) := NdefX.nscope_by (by decide +kernel)
abbrev s_BadTravel_init : Stmt := inClass (top 11) 0
abbrev N_BadTravel_init : List Str := ["self", "kind", "field", "__class__"]
abbrev P_BadTravel_init : List Str := ["self", "kind", "field"]
theorem sc_BadTravel_init : NdefX.NScope N_BadTravel_init P_BadTravel_init ["__class__"] (defScope s_BadTravel_init) := NdefX.nscope_by (by decide +kernel)
abbrev s_BadReader_init : Stmt := inClass (top 12) 0
abbrev N_BadReader_init : List Str := ["self", "kind", "__class__"]
abbrev P_BadReader_init : List Str := ["self", "kind"]
theorem sc_BadReader_init : NdefX.NScope N_BadReader_init P_BadReader_init ["__class__"] (defScope s_BadReader_init) := NdefX.nscope_by (by decide +kernel)
abbrev s_BadRow_init : Stmt := inClass (top 13) 0
abbrev N_BadRow_init : List Str := ["self", "travel", "__class__"]
abbrev P_BadRow_init : List Str := ["self", "travel"]
theorem sc_BadRow_init : NdefX.NScope N_BadRow_init P_BadRow_init ["__class__"] (defScope s_BadRow_init) := NdefX.nscope_by (by decide +kernel)
abbrev s_Endless_init : Stmt := inClass (top 14) 0
abbrev N_Endless_init : List Str := ["self", "travel", "__class__"]
abbrev P_Endless_init : List Str := ["self", "travel"]
theorem sc_Endless_init : NdefX.NScope N_Endless_init P_Endless_init ["__class__"] (defScope s_Endless_init) := NdefX.nscope_by (by decide +kernel)
abbrev s_TooLarge_init : Stmt := inClass (top 15) 0
abbrev N_TooLarge_init : List Str := ["self", "count", "__class__"]
abbrev P_TooLarge_init : List Str := ["self", "count"]
theorem sc_TooLarge_init : NdefX.NScope N_TooLarge_init P_TooLarge_init ["__class__"] (defScope s_TooLarge_init) := NdefX.nscope_by (by decide +kernel)
abbrev s_BadSaved_init : Stmt := inClass (top 16) 0
abbrev N_BadSaved_init : List Str := ["self", "line", "__class__"]
abbrev P_BadSaved_init : List Str := ["self", "line"]
theorem sc_BadSaved_init : NdefX.NScope N_BadSaved_init P_BadSaved_init ["__class__"] (defScope s_BadSaved_init) := NdefX.nscope_by (by decide +kernel)
abbrev s_BadComparer_init : Stmt := inClass (top 19) 0
abbrev N_BadComparer_init : List Str := ["self", "kind", "__class__"]
abbrev P_BadComparer_init : List Str := ["self", "kind"]
theorem sc_BadComparer_init : NdefX.NScope N_BadComparer_init P_BadComparer_init ["__class__"] (defScope s_BadComparer_init) := NdefX.nscope_by (by decide +kernel)
abbrev s_BadChange_init : Stmt := inClass (top 20) 0
abbrev N_BadChange_init : List Str := ["self", "at", "__class__"]
abbrev P_BadChange_init : List Str := ["self", "at"]
theorem sc_BadChange_init : NdefX.NScope N_BadChange_init P_BadChange_init ["__class__"] (defScope s_BadChange_init) := NdefX.nscope_by (by decide +kernel)
abbrev s_BadName_init : Stmt := inClass (top 21) 0
abbrev N_BadName_init : List Str := ["self", "name", "__class__"]
abbrev P_BadName_init : List Str := ["self", "name"]
theorem sc_BadName_init : NdefX.NScope N_BadName_init P_BadName_init ["__class__"] (defScope s_BadName_init) := NdefX.nscope_by (by decide +kernel)
abbrev s_pen : Stmt := top 24
abbrev N_pen : List Str := ["_law_script", "_law_total", "_law_cell"]
abbrev P_pen : List Str := ["_law_script"]
theorem sc_pen : FnScope N_pen P_pen (defScope s_pen) := ⟨rfl, rfl, rfl, by decide +kernel, rfl, by decide +kernel, by decide +kernel⟩
abbrev s_take : Stmt := top 25
abbrev N_take : List Str := ["_law_pen_here", "_law_bound", "_law_cell", "_law_mixed", "_law_digit"]
abbrev P_take : List Str := ["_law_pen_here", "_law_bound"]
theorem sc_take : FnScope N_take P_take (defScope s_take) := ⟨rfl, rfl, rfl, by decide +kernel, rfl, by decide +kernel, by decide +kernel⟩
abbrev s_one_of : Stmt := top 26
abbrev N_one_of : List Str := ["_law_pen_here", "_law_menu"]
abbrev P_one_of : List Str := ["_law_pen_here", "_law_menu"]
theorem sc_one_of : FnScope N_one_of P_one_of (defScope s_one_of) := ⟨rfl, rfl, rfl, by decide +kernel, rfl, by decide +kernel, by decide +kernel⟩
abbrev s_same : Stmt := top 27
abbrev N_same : List Str := ["_law_one", "_law_other"]
abbrev P_same : List Str := ["_law_one", "_law_other"]
theorem sc_same : FnScope N_same P_same (defScope s_same) := ⟨rfl, rfl, rfl, by decide +kernel, rfl, by decide +kernel, by decide +kernel⟩
abbrev s_plain : Stmt := top 28
abbrev N_plain : List Str := ["_law_pen_here", "_law_number"]
abbrev P_plain : List Str := ["_law_pen_here"]
theorem sc_plain : FnScope N_plain P_plain (defScope s_plain) := ⟨rfl, rfl, rfl, by decide +kernel, rfl, by decide +kernel, by decide +kernel⟩
abbrev s_classes : Stmt := top 29
abbrev N_classes : List Str := ["_law_error", "_law_first_here"]
abbrev P_classes : List Str := ["_law_error"]
theorem sc_classes : FnScope N_classes P_classes (defScope s_classes) := ⟨rfl, rfl, rfl, by decide +kernel, rfl, by decide +kernel, by decide +kernel⟩
abbrev s_first : Stmt := top 30
abbrev N_first : List Str := ["_law_value", "_law_other", "_law_a", "_law_b", "_law_c", "_law_d", "_law_e", "_law_f", "_law_g", "_law_found"]
abbrev P_first : List Str := ["_law_value", "_law_other"]
theorem sc_first : FnScope N_first P_first (defScope s_first) := ⟨rfl, rfl, rfl, by decide +kernel, rfl, by decide +kernel, by decide +kernel⟩
abbrev s_second : Stmt := top 31
abbrev N_second : List Str := ["_law_value", "_law_other", "_law_a", "_law_b", "_law_c", "_law_d", "_law_e", "_law_f", "_law_g", "_law_found"]
abbrev P_second : List Str := ["_law_value", "_law_other"]
theorem sc_second : FnScope N_second P_second (defScope s_second) := ⟨rfl, rfl, rfl, by decide +kernel, rfl, by decide +kernel, by decide +kernel⟩
abbrev s_third : Stmt := top 32
abbrev N_third : List Str := ["_law_value", "_law_a", "_law_b", "_law_c", "_law_d", "_law_found"]
abbrev P_third : List Str := ["_law_value"]
theorem sc_third : FnScope N_third P_third (defScope s_third) := ⟨rfl, rfl, rfl, by decide +kernel, rfl, by decide +kernel, by decide +kernel⟩
abbrev s_by_names : Stmt := top 33
abbrev N_by_names : List Str := ["_law_value", "_law_other", "_law_a", "_law_b", "_law_c", "_law_d", "_law_told"]
abbrev P_by_names : List Str := ["_law_value", "_law_other"]
theorem sc_by_names : FnScope N_by_names P_by_names (defScope s_by_names) := ⟨rfl, rfl, rfl, by decide +kernel, rfl, by decide +kernel, by decide +kernel⟩
abbrev s_caught : Stmt := top 34
abbrev N_caught : List Str := ["_law_value", "_law_other", "_law_told", "_law_e", "_law_caught_here"]
abbrev P_caught : List Str := ["_law_value", "_law_other"]
theorem sc_caught : FnScope N_caught P_caught (defScope s_caught) := ⟨rfl, rfl, rfl, by decide +kernel, rfl, by decide +kernel, by decide +kernel⟩
abbrev s_law : Stmt := top 35
abbrev N_law : List Str := ["_law_script", "_law_pen_here", "_law_value", "_law_other", "_law_made", "_law_k", "_law_error", "_law_told", "_law_due", "_law_j"]
abbrev P_law : List Str := ["_law_script"]
theorem sc_law : FnScope N_law P_law (defScope s_law) := ⟨rfl, rfl, rfl, by decide +kernel, rfl, by decide +kernel, by decide +kernel⟩
structure Txt (P : Program) (K : PySem.W.Frag) (mg : Str → Option Value) where
  f_BadField_init : Addr
  d_BadField_init : FuncData
  c_BadField_init : Addr
  cc_BadField_init : Addr
  B_BadField_init : Binds K d_BadField_init P_BadField_init []
  f_BadKind_init : Addr
  d_BadKind_init : FuncData
  c_BadKind_init : Addr
  cc_BadKind_init : Addr
  B_BadKind_init : Binds K d_BadKind_init P_BadKind_init []
  f_BadHouse_init : Addr
  d_BadHouse_init : FuncData
  c_BadHouse_init : Addr
  cc_BadHouse_init : Addr
  B_BadHouse_init : Binds K d_BadHouse_init P_BadHouse_init []
  f_UnknownKind_init : Addr
  d_UnknownKind_init : FuncData
  c_UnknownKind_init : Addr
  cc_UnknownKind_init : Addr
  B_UnknownKind_init : Binds K d_UnknownKind_init P_UnknownKind_init []
  f_UnknownField_init : Addr
  d_UnknownField_init : FuncData
  c_UnknownField_init : Addr
  cc_UnknownField_init : Addr
  B_UnknownField_init : Binds K d_UnknownField_init P_UnknownField_init []
  f_BadWeb_init : Addr
  d_BadWeb_init : FuncData
  c_BadWeb_init : Addr
  cc_BadWeb_init : Addr
  B_BadWeb_init : Binds K d_BadWeb_init P_BadWeb_init []
  f_BadText_init : Addr
  d_BadText_init : FuncData
  c_BadText_init : Addr
  cc_BadText_init : Addr
  B_BadText_init : Binds K d_BadText_init P_BadText_init []
  f_BadManner_init : Addr
  d_BadManner_init : FuncData
  c_BadManner_init : Addr
  cc_BadManner_init : Addr
  B_BadManner_init : Binds K d_BadManner_init P_BadManner_init []
  f_BadClient_init : Addr
  d_BadClient_init : FuncData
  c_BadClient_init : Addr
  cc_BadClient_init : Addr
  B_BadClient_init : Binds K d_BadClient_init P_BadClient_init []
  f_BadTravel_init : Addr
  d_BadTravel_init : FuncData
  c_BadTravel_init : Addr
  cc_BadTravel_init : Addr
  B_BadTravel_init : Binds K d_BadTravel_init P_BadTravel_init []
  f_BadReader_init : Addr
  d_BadReader_init : FuncData
  c_BadReader_init : Addr
  cc_BadReader_init : Addr
  B_BadReader_init : Binds K d_BadReader_init P_BadReader_init []
  f_BadRow_init : Addr
  d_BadRow_init : FuncData
  c_BadRow_init : Addr
  cc_BadRow_init : Addr
  B_BadRow_init : Binds K d_BadRow_init P_BadRow_init []
  f_Endless_init : Addr
  d_Endless_init : FuncData
  c_Endless_init : Addr
  cc_Endless_init : Addr
  B_Endless_init : Binds K d_Endless_init P_Endless_init []
  f_TooLarge_init : Addr
  d_TooLarge_init : FuncData
  c_TooLarge_init : Addr
  cc_TooLarge_init : Addr
  B_TooLarge_init : Binds K d_TooLarge_init P_TooLarge_init []
  f_BadSaved_init : Addr
  d_BadSaved_init : FuncData
  c_BadSaved_init : Addr
  cc_BadSaved_init : Addr
  B_BadSaved_init : Binds K d_BadSaved_init P_BadSaved_init []
  f_BadComparer_init : Addr
  d_BadComparer_init : FuncData
  c_BadComparer_init : Addr
  cc_BadComparer_init : Addr
  B_BadComparer_init : Binds K d_BadComparer_init P_BadComparer_init []
  f_BadChange_init : Addr
  d_BadChange_init : FuncData
  c_BadChange_init : Addr
  cc_BadChange_init : Addr
  B_BadChange_init : Binds K d_BadChange_init P_BadChange_init []
  f_BadName_init : Addr
  d_BadName_init : FuncData
  c_BadName_init : Addr
  cc_BadName_init : Addr
  B_BadName_init : Binds K d_BadName_init P_BadName_init []
  f_pen : Addr
  d_pen : FuncData
  F_pen : Fun K "_law_pen" "_law_pen" s_pen f_pen d_pen
  B_pen : Binds K d_pen P_pen []
  g_pen : mg "_law_pen" = some (.ref f_pen)
  f_take : Addr
  d_take : FuncData
  F_take : Fun K "_law_take" "_law_take" s_take f_take d_take
  B_take : Binds K d_take P_take []
  g_take : mg "_law_take" = some (.ref f_take)
  f_one_of : Addr
  d_one_of : FuncData
  F_one_of : Fun K "_law_one_of" "_law_one_of" s_one_of f_one_of d_one_of
  B_one_of : Binds K d_one_of P_one_of []
  g_one_of : mg "_law_one_of" = some (.ref f_one_of)
  f_same : Addr
  d_same : FuncData
  F_same : Fun K "_law_same" "_law_same" s_same f_same d_same
  B_same : Binds K d_same P_same []
  g_same : mg "_law_same" = some (.ref f_same)
  f_plain : Addr
  d_plain : FuncData
  F_plain : Fun K "_law_plain" "_law_plain" s_plain f_plain d_plain
  B_plain : Binds K d_plain P_plain []
  g_plain : mg "_law_plain" = some (.ref f_plain)
  f_classes : Addr
  d_classes : FuncData
  F_classes : Fun K "_law_classes" "_law_classes" s_classes f_classes d_classes
  B_classes : Binds K d_classes P_classes []
  g_classes : mg "_law_classes" = some (.ref f_classes)
  f_first : Addr
  d_first : FuncData
  F_first : Fun K "_law_first" "_law_first" s_first f_first d_first
  B_first : Binds K d_first P_first []
  g_first : mg "_law_first" = some (.ref f_first)
  f_second : Addr
  d_second : FuncData
  F_second : Fun K "_law_second" "_law_second" s_second f_second d_second
  B_second : Binds K d_second P_second []
  g_second : mg "_law_second" = some (.ref f_second)
  f_third : Addr
  d_third : FuncData
  F_third : Fun K "_law_third" "_law_third" s_third f_third d_third
  B_third : Binds K d_third P_third []
  g_third : mg "_law_third" = some (.ref f_third)
  f_by_names : Addr
  d_by_names : FuncData
  F_by_names : Fun K "_law_by_names" "_law_by_names" s_by_names f_by_names d_by_names
  B_by_names : Binds K d_by_names P_by_names []
  g_by_names : mg "_law_by_names" = some (.ref f_by_names)
  f_caught : Addr
  d_caught : FuncData
  F_caught : Fun K "_law_caught" "_law_caught" s_caught f_caught d_caught
  B_caught : Binds K d_caught P_caught []
  g_caught : mg "_law_caught" = some (.ref f_caught)
  f_law : Addr
  d_law : FuncData
  F_law : Fun K "law" "law" s_law f_law d_law
  B_law : Binds K d_law P_law []
  g_law : mg "law" = some (.ref f_law)
  C_WayError : Addr
  g_WayError : mg "WayError" = some (.ref C_WayError)
  nsp_WayError : Addr
  r_WayError : Way.XRoot K C_WayError nsp_WayError
  C_BadField : Addr
  g_BadField : mg "BadField" = some (.ref C_BadField)
  nsp_BadField : Addr
  X_BadField : Way.XCls K "BadField" C_BadField nsp_BadField C_WayError
  S_BadField : Way.SupFn K P "__init__" "BadField.__init__" s_BadField_init f_BadField_init d_BadField_init C_BadField c_BadField_init cc_BadField_init
  i_BadField : PySem.W.findIn K (.ref C_BadField) "__init__" = some (some (.ref f_BadField_init))
  t_BadField : PySem.W.typeIn K (.ref f_BadField_init) = some (.type "function")
  na_BadField_name : PySem.W.findIn K (.ref C_BadField) "name" = some none
  C_BadKind : Addr
  g_BadKind : mg "BadKind" = some (.ref C_BadKind)
  nsp_BadKind : Addr
  X_BadKind : Way.XCls K "BadKind" C_BadKind nsp_BadKind C_WayError
  S_BadKind : Way.SupFn K P "__init__" "BadKind.__init__" s_BadKind_init f_BadKind_init d_BadKind_init C_BadKind c_BadKind_init cc_BadKind_init
  i_BadKind : PySem.W.findIn K (.ref C_BadKind) "__init__" = some (some (.ref f_BadKind_init))
  t_BadKind : PySem.W.typeIn K (.ref f_BadKind_init) = some (.type "function")
  na_BadKind_name : PySem.W.findIn K (.ref C_BadKind) "name" = some none
  C_BadHouse : Addr
  g_BadHouse : mg "BadHouse" = some (.ref C_BadHouse)
  nsp_BadHouse : Addr
  X_BadHouse : Way.XCls K "BadHouse" C_BadHouse nsp_BadHouse C_WayError
  S_BadHouse : Way.SupFn K P "__init__" "BadHouse.__init__" s_BadHouse_init f_BadHouse_init d_BadHouse_init C_BadHouse c_BadHouse_init cc_BadHouse_init
  i_BadHouse : PySem.W.findIn K (.ref C_BadHouse) "__init__" = some (some (.ref f_BadHouse_init))
  t_BadHouse : PySem.W.typeIn K (.ref f_BadHouse_init) = some (.type "function")
  na_BadHouse_name : PySem.W.findIn K (.ref C_BadHouse) "name" = some none
  C_UnknownKind : Addr
  g_UnknownKind : mg "UnknownKind" = some (.ref C_UnknownKind)
  nsp_UnknownKind : Addr
  X_UnknownKind : Way.XCls K "UnknownKind" C_UnknownKind nsp_UnknownKind C_WayError
  S_UnknownKind : Way.SupFn K P "__init__" "UnknownKind.__init__" s_UnknownKind_init f_UnknownKind_init d_UnknownKind_init C_UnknownKind c_UnknownKind_init cc_UnknownKind_init
  i_UnknownKind : PySem.W.findIn K (.ref C_UnknownKind) "__init__" = some (some (.ref f_UnknownKind_init))
  t_UnknownKind : PySem.W.typeIn K (.ref f_UnknownKind_init) = some (.type "function")
  na_UnknownKind_name : PySem.W.findIn K (.ref C_UnknownKind) "name" = some none
  C_UnknownField : Addr
  g_UnknownField : mg "UnknownField" = some (.ref C_UnknownField)
  nsp_UnknownField : Addr
  X_UnknownField : Way.XCls K "UnknownField" C_UnknownField nsp_UnknownField C_WayError
  S_UnknownField : Way.SupFn K P "__init__" "UnknownField.__init__" s_UnknownField_init f_UnknownField_init d_UnknownField_init C_UnknownField c_UnknownField_init cc_UnknownField_init
  i_UnknownField : PySem.W.findIn K (.ref C_UnknownField) "__init__" = some (some (.ref f_UnknownField_init))
  t_UnknownField : PySem.W.typeIn K (.ref f_UnknownField_init) = some (.type "function")
  na_UnknownField_kind : PySem.W.findIn K (.ref C_UnknownField) "kind" = some none
  na_UnknownField_name : PySem.W.findIn K (.ref C_UnknownField) "name" = some none
  C_BadWeb : Addr
  g_BadWeb : mg "BadWeb" = some (.ref C_BadWeb)
  nsp_BadWeb : Addr
  X_BadWeb : Way.XCls K "BadWeb" C_BadWeb nsp_BadWeb C_WayError
  S_BadWeb : Way.SupFn K P "__init__" "BadWeb.__init__" s_BadWeb_init f_BadWeb_init d_BadWeb_init C_BadWeb c_BadWeb_init cc_BadWeb_init
  i_BadWeb : PySem.W.findIn K (.ref C_BadWeb) "__init__" = some (some (.ref f_BadWeb_init))
  t_BadWeb : PySem.W.typeIn K (.ref f_BadWeb_init) = some (.type "function")
  na_BadWeb_thing : PySem.W.findIn K (.ref C_BadWeb) "thing" = some none
  C_BadText : Addr
  g_BadText : mg "BadText" = some (.ref C_BadText)
  nsp_BadText : Addr
  X_BadText : Way.XCls K "BadText" C_BadText nsp_BadText C_WayError
  S_BadText : Way.SupFn K P "__init__" "BadText.__init__" s_BadText_init f_BadText_init d_BadText_init C_BadText c_BadText_init cc_BadText_init
  i_BadText : PySem.W.findIn K (.ref C_BadText) "__init__" = some (some (.ref f_BadText_init))
  t_BadText : PySem.W.typeIn K (.ref f_BadText_init) = some (.type "function")
  na_BadText_line : PySem.W.findIn K (.ref C_BadText) "line" = some none
  C_BadManner : Addr
  g_BadManner : mg "BadManner" = some (.ref C_BadManner)
  nsp_BadManner : Addr
  X_BadManner : Way.XCls K "BadManner" C_BadManner nsp_BadManner C_WayError
  S_BadManner : Way.SupFn K P "__init__" "BadManner.__init__" s_BadManner_init f_BadManner_init d_BadManner_init C_BadManner c_BadManner_init cc_BadManner_init
  i_BadManner : PySem.W.findIn K (.ref C_BadManner) "__init__" = some (some (.ref f_BadManner_init))
  t_BadManner : PySem.W.typeIn K (.ref f_BadManner_init) = some (.type "function")
  na_BadManner_name : PySem.W.findIn K (.ref C_BadManner) "name" = some none
  C_BadClient : Addr
  g_BadClient : mg "BadClient" = some (.ref C_BadClient)
  nsp_BadClient : Addr
  X_BadClient : Way.XCls K "BadClient" C_BadClient nsp_BadClient C_WayError
  S_BadClient : Way.SupFn K P "__init__" "BadClient.__init__" s_BadClient_init f_BadClient_init d_BadClient_init C_BadClient c_BadClient_init cc_BadClient_init
  i_BadClient : PySem.W.findIn K (.ref C_BadClient) "__init__" = some (some (.ref f_BadClient_init))
  t_BadClient : PySem.W.typeIn K (.ref f_BadClient_init) = some (.type "function")
  na_BadClient_line : PySem.W.findIn K (.ref C_BadClient) "line" = some none
  C_BadTravel : Addr
  g_BadTravel : mg "BadTravel" = some (.ref C_BadTravel)
  nsp_BadTravel : Addr
  X_BadTravel : Way.XCls K "BadTravel" C_BadTravel nsp_BadTravel C_WayError
  S_BadTravel : Way.SupFn K P "__init__" "BadTravel.__init__" s_BadTravel_init f_BadTravel_init d_BadTravel_init C_BadTravel c_BadTravel_init cc_BadTravel_init
  i_BadTravel : PySem.W.findIn K (.ref C_BadTravel) "__init__" = some (some (.ref f_BadTravel_init))
  t_BadTravel : PySem.W.typeIn K (.ref f_BadTravel_init) = some (.type "function")
  na_BadTravel_kind : PySem.W.findIn K (.ref C_BadTravel) "kind" = some none
  na_BadTravel_field : PySem.W.findIn K (.ref C_BadTravel) "field" = some none
  C_BadReader : Addr
  g_BadReader : mg "BadReader" = some (.ref C_BadReader)
  nsp_BadReader : Addr
  X_BadReader : Way.XCls K "BadReader" C_BadReader nsp_BadReader C_WayError
  S_BadReader : Way.SupFn K P "__init__" "BadReader.__init__" s_BadReader_init f_BadReader_init d_BadReader_init C_BadReader c_BadReader_init cc_BadReader_init
  i_BadReader : PySem.W.findIn K (.ref C_BadReader) "__init__" = some (some (.ref f_BadReader_init))
  t_BadReader : PySem.W.typeIn K (.ref f_BadReader_init) = some (.type "function")
  na_BadReader_kind : PySem.W.findIn K (.ref C_BadReader) "kind" = some none
  C_BadRow : Addr
  g_BadRow : mg "BadRow" = some (.ref C_BadRow)
  nsp_BadRow : Addr
  X_BadRow : Way.XCls K "BadRow" C_BadRow nsp_BadRow C_WayError
  S_BadRow : Way.SupFn K P "__init__" "BadRow.__init__" s_BadRow_init f_BadRow_init d_BadRow_init C_BadRow c_BadRow_init cc_BadRow_init
  i_BadRow : PySem.W.findIn K (.ref C_BadRow) "__init__" = some (some (.ref f_BadRow_init))
  t_BadRow : PySem.W.typeIn K (.ref f_BadRow_init) = some (.type "function")
  na_BadRow_travel : PySem.W.findIn K (.ref C_BadRow) "travel" = some none
  C_Endless : Addr
  g_Endless : mg "Endless" = some (.ref C_Endless)
  nsp_Endless : Addr
  X_Endless : Way.XCls K "Endless" C_Endless nsp_Endless C_WayError
  S_Endless : Way.SupFn K P "__init__" "Endless.__init__" s_Endless_init f_Endless_init d_Endless_init C_Endless c_Endless_init cc_Endless_init
  i_Endless : PySem.W.findIn K (.ref C_Endless) "__init__" = some (some (.ref f_Endless_init))
  t_Endless : PySem.W.typeIn K (.ref f_Endless_init) = some (.type "function")
  na_Endless_travel : PySem.W.findIn K (.ref C_Endless) "travel" = some none
  C_TooLarge : Addr
  g_TooLarge : mg "TooLarge" = some (.ref C_TooLarge)
  nsp_TooLarge : Addr
  X_TooLarge : Way.XCls K "TooLarge" C_TooLarge nsp_TooLarge C_WayError
  S_TooLarge : Way.SupFn K P "__init__" "TooLarge.__init__" s_TooLarge_init f_TooLarge_init d_TooLarge_init C_TooLarge c_TooLarge_init cc_TooLarge_init
  i_TooLarge : PySem.W.findIn K (.ref C_TooLarge) "__init__" = some (some (.ref f_TooLarge_init))
  t_TooLarge : PySem.W.typeIn K (.ref f_TooLarge_init) = some (.type "function")
  na_TooLarge_count : PySem.W.findIn K (.ref C_TooLarge) "count" = some none
  C_BadSaved : Addr
  g_BadSaved : mg "BadSaved" = some (.ref C_BadSaved)
  nsp_BadSaved : Addr
  X_BadSaved : Way.XCls K "BadSaved" C_BadSaved nsp_BadSaved C_WayError
  S_BadSaved : Way.SupFn K P "__init__" "BadSaved.__init__" s_BadSaved_init f_BadSaved_init d_BadSaved_init C_BadSaved c_BadSaved_init cc_BadSaved_init
  i_BadSaved : PySem.W.findIn K (.ref C_BadSaved) "__init__" = some (some (.ref f_BadSaved_init))
  t_BadSaved : PySem.W.typeIn K (.ref f_BadSaved_init) = some (.type "function")
  na_BadSaved_line : PySem.W.findIn K (.ref C_BadSaved) "line" = some none
  C_BadStanding : Addr
  g_BadStanding : mg "BadStanding" = some (.ref C_BadStanding)
  nsp_BadStanding : Addr
  X_BadStanding : Way.XCls K "BadStanding" C_BadStanding nsp_BadStanding C_WayError
  q_BadStanding : PySem.W.excIn K C_BadStanding [.type "ValueError", .type "Exception", .type "BaseException", .type "object"] "ValueError.__new__" = true
  C_BadPaper : Addr
  g_BadPaper : mg "BadPaper" = some (.ref C_BadPaper)
  nsp_BadPaper : Addr
  X_BadPaper : Way.XCls K "BadPaper" C_BadPaper nsp_BadPaper C_WayError
  q_BadPaper : PySem.W.excIn K C_BadPaper [.type "ValueError", .type "Exception", .type "BaseException", .type "object"] "ValueError.__new__" = true
  C_BadComparer : Addr
  g_BadComparer : mg "BadComparer" = some (.ref C_BadComparer)
  nsp_BadComparer : Addr
  X_BadComparer : Way.XCls K "BadComparer" C_BadComparer nsp_BadComparer C_WayError
  S_BadComparer : Way.SupFn K P "__init__" "BadComparer.__init__" s_BadComparer_init f_BadComparer_init d_BadComparer_init C_BadComparer c_BadComparer_init cc_BadComparer_init
  i_BadComparer : PySem.W.findIn K (.ref C_BadComparer) "__init__" = some (some (.ref f_BadComparer_init))
  t_BadComparer : PySem.W.typeIn K (.ref f_BadComparer_init) = some (.type "function")
  na_BadComparer_kind : PySem.W.findIn K (.ref C_BadComparer) "kind" = some none
  C_BadChange : Addr
  g_BadChange : mg "BadChange" = some (.ref C_BadChange)
  nsp_BadChange : Addr
  X_BadChange : Way.XCls K "BadChange" C_BadChange nsp_BadChange C_WayError
  S_BadChange : Way.SupFn K P "__init__" "BadChange.__init__" s_BadChange_init f_BadChange_init d_BadChange_init C_BadChange c_BadChange_init cc_BadChange_init
  i_BadChange : PySem.W.findIn K (.ref C_BadChange) "__init__" = some (some (.ref f_BadChange_init))
  t_BadChange : PySem.W.typeIn K (.ref f_BadChange_init) = some (.type "function")
  na_BadChange_at : PySem.W.findIn K (.ref C_BadChange) "at" = some none
  C_BadName : Addr
  g_BadName : mg "BadName" = some (.ref C_BadName)
  nsp_BadName : Addr
  X_BadName : Way.XCls K "BadName" C_BadName nsp_BadName C_WayError
  S_BadName : Way.SupFn K P "__init__" "BadName.__init__" s_BadName_init f_BadName_init d_BadName_init C_BadName c_BadName_init cc_BadName_init
  i_BadName : PySem.W.findIn K (.ref C_BadName) "__init__" = some (some (.ref f_BadName_init))
  t_BadName : PySem.W.typeIn K (.ref f_BadName_init) = some (.type "function")
  na_BadName_name : PySem.W.findIn K (.ref C_BadName) "name" = some none
  C_Busy : Addr
  g_Busy : mg "Busy" = some (.ref C_Busy)
  nsp_Busy : Addr
  X_Busy : Way.XCls K "Busy" C_Busy nsp_Busy C_WayError
  q_Busy : PySem.W.excIn K C_Busy [.type "ValueError", .type "Exception", .type "BaseException", .type "object"] "ValueError.__new__" = true
  xall : Way.XAll K
  b_ValueError : mg "ValueError" = none
  b_range : mg "range" = none
  b_list : mg "list" = none
  b_int : mg "int" = none
  b_repr : mg "repr" = none
  b_isinstance : mg "isinstance" = none
  b_len : mg "len" = none
  b_str : mg "str" = none
  b_super : mg "super" = none
theorem hu65 {A : Around} {k : Nat} (hr : Room k A) : A.units + 65 < cLine := by have := hr.un; omega
theorem hu66 {A : Around} {k : Nat} (hr : Room k A) : A.units + 66 < cLine := by have := hr.un; omega
/-! the pen -/
def spPen (K : PySem.W.Frag) : Sp := fun vs H Q _ => ∃ (a : Addr) (ns : List Int), vs = [.ref a] ∧ SqL K H a (ns.map V.int) ∧ ns.length ≤ 63 ∧ ∀ H' p c, Same H H' → H p = none → H c = none → Pen H' p c 0 → Q (.ref p) H'
def spTake : Sp := fun vs H Q _ => ∃ (p c : Addr) (m : Int) (k : Nat), vs = [.ref p, .int m] ∧ Pen H p c k ∧ k ≤ 100000 ∧ 0 < m ∧ m ≤ 10000000000000000 ∧ ∀ H' d, Kp p H H' → Pen H' p c (k + 1) → 0 ≤ d → d < m → Q (.int d) H'
theorem at_int {l : List Int} {i : Nat} {y : V} (e : (l.map V.int)[i]? = some y) : ∃ b, l[i]? = some b ∧ y = V.int b := by
  rw [List.getElem?_map] at e
  cases q : l[i]? with
  | none => rw [q] at e; cases e
  | some b => rw [q] at e; exact ⟨b, rfl, (Option.some.inj e).symm⟩
section
variable {P : Program} {w : World} {K : PySem.W.Frag} {mg : Str → Option Value} {base : Heap}
theorem rc_int1 {H : Hp} {i : Int} : RC (fun xs H Q => (∃ i, xs = [V.int i] ∧ Q (.int i) H) ∨ ∃ b, xs = [V.bl b] ∧ Q (.int (if b then 1 else 0)) H) [.int i] H (.int i) := fun H2 _ _ q => .inl ⟨_, rfl, q H2 (Ex.refl H2)⟩
theorem ok_pen (T : Txt P K mg) : FnOk P w K mg base CX0 1 T.f_pen T.d_pen P_pen (spPen K) := by
  refine T.F_pen.ok sc_pen (fun vs H Q E h => ?_) (fun cdv A outer s H vs Q E hr h => ?_)
  · obtain ⟨a, ns, rfl, _⟩ := h
    rfl
  · obtain ⟨a, ns, rfl, hS, hl, k⟩ := h
    refine ⟨_, (pss_cons (ps_set (i := 1) sc_pen.nd rfl (Or.inl rfl) pe_int)
      (pss_cons (ps_for PassesOwn.never rfl (pi_list (pv 0)) (pg_name (i := 2) sc_pen.nd rfl (Or.inl rfl)) (pss_one (ps_set (i := 1) sc_pen.nd rfl (Or.inl rfl) (pe_op op_mod (pe_callTy call_int1 (by rfl) T.b_int (by decide +kernel) (pa_cons (pe_op op_add (pe_op op_mul (pv 1) pe_int) (pv 2)) pa_nil)) pe_int))))
      (pss_one (ps_ret (pe_disp (pps_cons pe_str (pe_callTy call_list_of (by rfl) T.b_list (by decide +kernel) (pa_cons (pv 0) pa_nil)) (pps_cons pe_str pe_int (pps_cons pe_str pe_int (pps_cons pe_str pe_int (pps_cons pe_str (pv 1) (pps_cons pe_str pe_int pps_nil)))))) (by rfl) (by rfl) (fun z => by cases z) (by decide)))))), ?_⟩
    refine q_asg ev_c fun H1 X1 => ?_
    refine q_forLn (K := K) (ev_var rfl) (ex_l X1 hS) (fun i σ H' => ∃ (t : Int) (v : Option V), σ = [some (.ref a), some (.int t), v] ∧ Ex H H' ∧ 0 ≤ t ∧ t < 2147483587) (fun H2 X2 => ⟨29, none, rfl, X1.trans X2, by decide, by decide⟩) (fun i σ' H' _ ⟨_, _, _, X, _⟩ => ex_l X hS) ?_ ?_
    · rintro i x σ' H' hx ⟨t, v, rfl, X, t0, t1⟩
      obtain ⟨b, _, rfl⟩ := at_int hx
      refine s_asg (ev_op (ev_cb (ea_cons (ev_op (ev_op (ev_var rfl) ev_c (rv_I (.inr (by decide)))) (ev_var rfl) rv_I0) ea_nil) (fun H2 _ _ q => .inl ⟨_, rfl, q H2 (Ex.refl H2)⟩)) ev_c (rv_I (by decide : (0 : Int) < 2147483587))) fun H2 X2 => ?_
      exact ⟨_, _, rfl, X.trans X2, Int.emod_nonneg _ (by decide), Int.emod_lt_of_pos _ (by decide)⟩
    · rintro σ' H' ⟨t, v, rfl, X, t0, t1⟩
      intro p hp
      refine ⟨_, rfl, a, _, rfl, .inl (ex_l (X.trans (Ex.new hp)) hS), fun c hc => ?_⟩
      have ncp : p ≠ c := fun e => by rw [← e, upd_same] at hc; cases hc
      have hc' : H' c = none := by rw [upd_ne ncp.symm] at hc; exact hc
      refine ⟨_, rfl, Eq.trans (upd_ne ncp) upd_same, penK c 0 0 0 t 0, rfl, (by show 6 ≤ 15; decide), ?_⟩
      rw [pk_made]
      refine k _ p c (fun b o e => ?_) (fresh_back X hp) (fresh_back X hc') ⟨ns, 0, 0, 0, t, 0, upd_same, ?_, by decide, by decide, by decide, t0, by omega, by decide, by decide⟩
      · rw [upd_ne (ne_of_none e (fresh_back X hp)), upd_ne (ne_of_none e (fresh_back X hc')), upd_ne (ne_of_none e (fresh_back X hp))]
        exact X _ _ e
      · rw [upd_ne ncp.symm, upd_same]
theorem ok_take (T : Txt P K mg) : FnOk P w K mg base CX0 1 T.f_take T.d_take P_take spTake := by
  refine T.F_take.ok sc_take (fun vs H Q E h => ?_) (fun cdv A outer s H vs Q E hr h => ?_)
  · obtain ⟨p, c, m, k, rfl, _⟩ := h
    rfl
  · obtain ⟨p, c, b, k, rfl, ⟨cs, i, r, d, m, t, hp, hc, i0, d0, d1, m0, m1, t0, t1⟩, hk, b0, b1, kont⟩ := h
    have ncp : c ≠ p := ne_of hc hp (by intro q; cases q)
    refine ⟨_, (pss_cons (ps_asg (pe_op op_add (pe_dget (hu_of hr) (pv 0) pe_str (fun _ _ => rfl)) pe_int) (pg_sub (pv 0) pe_str (set_dict (hu_of hr))))
      (pss_cut (ps_if (PW.pt (pw_and (pt_cmpR op_eq (pe_dget (hu_of hr) (pv 0) pe_str (fun _ _ => rfl)) pe_int (nomark _)) (pw_and1 (pt_cmpR op_lt (pe_dget (hu_of hr) (pv 0) pe_str (fun _ _ => rfl)) (pe_callB call_len_seq (by rfl) T.b_len (by decide +kernel) (pa_cons (pe_dget (hu_of hr) (pv 0) pe_str (fun _ _ => rfl)) pa_nil)) (nomark _))))) (pss_cons (ps_set (i := 2) sc_take.nd rfl (Or.inl rfl) (pe_ix ix_list (pe_dget (hu_of hr) (pv 0) pe_str (fun _ _ => rfl)) (pe_dget (hu_of hr) (pv 0) pe_str (fun _ _ => rfl)) (fun _ _ => rfl)))
      (pss_cons (ps_asg (pe_op op_add (pe_dget (hu_of hr) (pv 0) pe_str (fun _ _ => rfl)) pe_int) (pg_sub (pv 0) pe_str (set_dict (hu_of hr))))
      (pss_cons (ps_if (pt_cmpR op_lt (pv 2) (pe_op op_pow pe_int pe_int) (nomark _)) (pss_cons (ps_set (i := 3) sc_take.nd rfl (Or.inl rfl) (pe_op op_mod (pe_callTy call_int1 (by rfl) T.b_int (by decide +kernel) (pa_cons (pe_op op_add (pe_op op_add (pe_op op_mul (pe_op op_mod (pe_callTy call_int1 (by rfl) T.b_int (by decide +kernel) (pa_cons (pv 2) pa_nil)) pe_int) pe_int) (pe_dget (hu_of hr) (pv 0) pe_str (fun _ _ => rfl))) (pe_op op_mul (pe_dget (hu_of hr) (pv 0) pe_str (fun _ _ => rfl)) pe_int)) pa_nil)) pe_int))
      (pss_cons (ps_asg (pe_op op_mod (pe_callTy call_int1 (by rfl) T.b_int (by decide +kernel) (pa_cons (pe_op op_add (pe_op op_add (pe_op op_mul (pe_dget (hu_of hr) (pv 0) pe_str (fun _ _ => rfl)) pe_int) (pv 3)) pe_int) pa_nil)) pe_int) (pg_sub (pv 0) pe_str (set_dict (hu_of hr))))
      (pss_one (ps_ret (pe_op op_mod (pe_op op_fdiv (pe_op op_mod (pe_callTy call_int1 (by rfl) T.b_int (by decide +kernel) (pa_cons (pe_op op_add (pe_op op_mul (pv 3) (pv 3)) (pe_dget (hu_of hr) (pv 0) pe_str (fun _ _ => rfl))) pa_nil)) pe_int) pe_int) (pv 1)))))) pss_nil)
      (pss_cons (ps_asg (pe_op op_sub (pv 2) (pe_op op_pow pe_int pe_int)) (pg_sub (pv 0) pe_str (set_dict (hu_of hr))))
      (pss_one (ps_asg pe_int (pg_sub (pv 0) pe_str (set_dict (hu_of hr))))))))) pss_nil)
      (pss_cons (ps_if (pt_cmpR op_gt (pe_dget (hu_of hr) (pv 0) pe_str (fun _ _ => rfl)) pe_int (nomark _)) (pss_cons (ps_asg (pe_op op_sub (pe_dget (hu_of hr) (pv 0) pe_str (fun _ _ => rfl)) pe_int) (pg_sub (pv 0) pe_str (set_dict (hu_of hr))))
      (pss_cons (ps_set (i := 4) sc_take.nd rfl (Or.inl rfl) (pe_op op_mod (pe_callTy call_int1 (by rfl) T.b_int (by decide +kernel) (pa_cons (pe_dget (hu_of hr) (pv 0) pe_str (fun _ _ => rfl)) pa_nil)) (pv 1)))
      (pss_cons (ps_asg (pe_op op_fdivW (pe_dget (hu_of hr) (pv 0) pe_str (fun _ _ => rfl)) (pv 1)) (pg_sub (pv 0) pe_str (set_dict (hu_of hr))))
      (pss_one (ps_ret (pv 4)))))) pss_nil)
      (pss_cons (ps_asg (pe_op op_mod (pe_callTy call_int1 (by rfl) T.b_int (by decide +kernel) (pa_cons (pe_op op_add (pe_op op_add (pe_op op_mul (pe_dget (hu_of hr) (pv 0) pe_str (fun _ _ => rfl)) pe_int) (pe_op op_mul (pe_dget (hu_of hr) (pv 0) pe_str (fun _ _ => rfl)) pe_int)) pe_int) pa_nil)) pe_int) (pg_sub (pv 0) pe_str (set_dict (hu_of hr))))
      (pss_one (ps_ret (pe_op op_mod (pe_op op_fdiv (pe_op op_mod (pe_callTy call_int1 (by rfl) T.b_int (by decide +kernel) (pa_cons (pe_op op_add (pe_op op_mul (pe_dget (hu_of hr) (pv 0) pe_str (fun _ _ => rfl)) (pe_dget (hu_of hr) (pv 0) pe_str (fun _ _ => rfl))) (pe_dget (hu_of hr) (pv 0) pe_str (fun _ _ => rfl))) pa_nil)) pe_int) pe_int) (pv 1)))))))), ?_⟩
    refine q_dput hp (v := .int (t + 1)) (ev_op (ev_dgetK (ev_var rfl) ev_c hp pk_turn) ev_c rv_I0) (ev_var rfl) ev_c (by show 6 < 100000; decide) fun H1 X1 => ?_
    rw [pp_turn]
    have hp1 : (upd H1 p (.dK (penK c i r d m (t + 1)))) p = some (.dK (penK c i r d m (t + 1))) := upd_same
    have hc1 : (upd H1 p (.dK (penK c i r d m (t + 1)))) c = some (.lst (cs.map V.int)) := (upd_ne ncp).trans (X1 _ _ hc)
    have K1 : Kp p H (upd H1 p (.dK (penK c i r d m (t + 1)))) := Kp.set (Kp.of X1)
    have ht : 0 ≤ t + 1 ∧ t + 1 ≤ ((k + 1 : Nat) : Int) := by omega
    revert hp1 hc1 K1 ht
    generalize upd H1 p (.dK (penK c i r d m (t + 1))) = H2
    generalize t + 1 = u
    intro hp2 hc2 K2 hu
    have hM : (0 : Int) < 2147483587 := by decide
    have hM2 : (0 : Int) < 2147483647 := by decide
    refine q_cut (M := fun σ' H' => ∃ (i' r' d' : Int) (v2 v3 v4 : Option V), σ' = [some (.ref p), some (.int b), v2, v3, v4] ∧ H' p = some (.dK (penK c i' r' d' m u)) ∧ H' c = some (.lst (cs.map V.int)) ∧ 0 ≤ i' ∧ 0 ≤ d' ∧ d' ≤ 50 ∧ Kp p H H') ?_ ?_
    · refine s_when (et_and (et_test (ev_op (ev_dgetK (ev_var rfl) ev_c hp2 pk_digits) ev_c (rv_eq rfl))) fun _ => et_test (ev_op (ev_dgetK (ev_var rfl) ev_c hp2 pk_at) (ev_cb (ea_cons (ev_dgetK (ev_var rfl) ev_c hp2 pk_cells) ea_nil) (rc_lenL (sq_of hc2))) rv_I0)) (fun q H3 X3 => ?_) (fun q H3 X3 => ?_)
      · have q' := (Bool.and_eq_true_iff.mp q).2
        have hi : i.toNat < cs.length := by
          have := of_decide_eq_true q'
          simp at this
          omega
        have hp3 := X3 _ _ hp2
        have hc3 := X3 _ _ hc2
        refine q_asg (v := .int (cs[i.toNat])) (ev_op (ev_dgetK (ev_var rfl) ev_c hp3 pk_cells) (ev_dgetK (ev_var rfl) ev_c hp3 pk_at) (rv_ixL (sq_of hc3) (at_of (j := i.toNat) (by omega) (by rw [List.getElem?_map, List.getElem?_eq_getElem hi]; rfl)))) fun H4 X4 => ?_
        generalize cs[i.toNat] = cell
        have hp4 := X4 _ _ hp3
        refine q_dput hp4 (v := .int (i + 1)) (ev_op (ev_dgetK (ev_var rfl) ev_c hp4 pk_at) ev_c rv_I0) (ev_var rfl) ev_c (by show 6 < 100000; decide) fun H5 X5 => ?_
        rw [pp_at]
        have hp5 : (upd H5 p (.dK (penK c (i + 1) r d m u))) p = some (.dK (penK c (i + 1) r d m u)) := upd_same
        have hc5 : (upd H5 p (.dK (penK c (i + 1) r d m u))) c = some (.lst (cs.map V.int)) := (upd_ne ncp).trans (X5 _ _ (X4 _ _ hc3))
        have K5 : Kp p H (upd H5 p (.dK (penK c (i + 1) r d m u))) := Kp.set (Kp.trans K2 (Kp.of (X3.trans (X4.trans X5))))
        revert hp5 hc5 K5
        generalize upd H5 p (.dK (penK c (i + 1) r d m u)) = H6
        intro hp6 hc6 K6
        refine q_when (et_test (ev_op (ev_var rfl) (ev_op ev_c ev_c (rv_I ⟨by decide, by decide, by decide⟩)) rv_I0)) (fun q2 H7 X7 => ?_) (fun q2 H7 X7 => ?_)
        · have hp7 := X7 _ _ hp6
          have hp8 := hp7
          have X8 := Ex.refl H7
          have hc8 := X7 _ _ hc6
          refine q_asg (v := .int ((cell % 2147483587 * 69621 + m + u * 40692) % 2147483647)) (ev_op (ev_cb (ea_cons (ev_op (ev_op (ev_op (ev_op (ev_cb (ea_cons (ev_var rfl) ea_nil) (fun H2 _ _ q => .inl ⟨_, rfl, q H2 (Ex.refl H2)⟩)) ev_c (rv_I hM)) ev_c (rv_I (.inr (by decide)))) (ev_dgetK (ev_var rfl) ev_c hp8 pk_mix) rv_I0) (ev_op (ev_dgetK (ev_var rfl) ev_c hp8 pk_turn) ev_c (rv_I (.inr (by decide)))) rv_I0) ea_nil) (fun H2 _ _ q => .inl ⟨_, rfl, q H2 (Ex.refl H2)⟩)) ev_c (rv_I hM2)) fun H9 X9 => ?_
          have f0 : 0 ≤ (cell % 2147483587 * 69621 + m + u * 40692) % 2147483647 := Int.emod_nonneg _ (by decide)
          have f1 : (cell % 2147483587 * 69621 + m + u * 40692) % 2147483647 < 2147483647 := Int.emod_lt_of_pos _ hM2
          revert f0 f1
          generalize (cell % 2147483587 * 69621 + m + u * 40692) % 2147483647 = f
          intro f0 f1
          have hp9 := X9 _ _ hp8
          refine q_dput hp9 (v := .int ((m * 16807 + f + 13) % 2147483587)) (ev_op (ev_cb (ea_cons (ev_op (ev_op (ev_op (ev_dgetK (ev_var rfl) ev_c hp9 pk_mix) ev_c (rv_I (.inr (by decide)))) (ev_var rfl) rv_I0) ev_c rv_I0) ea_nil) (fun H2 _ _ q => .inl ⟨_, rfl, q H2 (Ex.refl H2)⟩)) ev_c (rv_I hM)) (ev_var rfl) ev_c (by show 6 < 100000; decide) fun H10 X10 => ?_
          rw [pp_mix]
          have g0 : 0 ≤ (m * 16807 + f + 13) % 2147483587 := Int.emod_nonneg _ (by decide)
          have g1 : (m * 16807 + f + 13) % 2147483587 < 2147483587 := Int.emod_lt_of_pos _ hM
          revert g0 g1
          generalize (m * 16807 + f + 13) % 2147483587 = g
          intro g0 g1
          have hp11 : (upd H10 p (.dK (penK c (i + 1) r d g u))) p = some (.dK (penK c (i + 1) r d g u)) := upd_same
          have hc11 : (upd H10 p (.dK (penK c (i + 1) r d g u))) c = some (.lst (cs.map V.int)) := (upd_ne ncp).trans (X10 _ _ (X9 _ _ (X8 _ _ (X7 _ _ hc6))))
          have K11 : Kp p H (upd H10 p (.dK (penK c (i + 1) r d g u))) := Kp.set (Kp.trans K6 (Kp.of (X7.trans (X8.trans (X9.trans X10)))))
          refine s_ret (v := .int ((f * f + g) % 2147483563 / 7 % b)) (ev_op (ev_op (ev_op (ev_cb (ea_cons (ev_op (ev_op (ev_var rfl) (ev_var rfl) (rv_I (.inl ⟨by omega, by omega⟩))) (ev_dgetK (ev_var rfl) ev_c hp11 pk_mix) rv_I0) ea_nil) (fun H2 _ _ q => .inl ⟨_, rfl, q H2 (Ex.refl H2)⟩)) ev_c (rv_I (by decide : (0 : Int) < 2147483563))) ev_c (rv_I ⟨by decide, by decide⟩)) (ev_var rfl) (rv_I b0)) fun H12 X12 => ?_
          exact kont _ _ (Kp.trans K11 (Kp.of X12)) ⟨cs, _, _, _, _, _, X12 _ _ hp11, X12 _ _ hc11, by omega, d0, d1, g0, by omega, hu.1, hu.2⟩ (Int.emod_nonneg _ (by omega)) (Int.emod_lt_of_pos _ b0)
        · have hp7 := X7 _ _ hp6
          have hc7 := X7 _ _ hc6
          refine q_dput hp7 (v := .int (cell - 10 ^ 18)) (ev_op (ev_var rfl) (ev_op ev_c ev_c (rv_I ⟨by decide, by decide, by decide⟩)) rv_I0) (ev_var rfl) ev_c (by show 6 < 100000; decide) fun H8 X8 => ?_
          rw [pp_rest]
          have hp8 : (upd H8 p (.dK (penK c (i + 1) (cell - 10 ^ 18) d m u))) p = some (.dK (penK c (i + 1) (cell - 10 ^ 18) d m u)) := upd_same
          refine s_dput hp8 (v := .int 40) ev_c (ev_var rfl) ev_c (by show 6 < 100000; decide) fun H9 X9 => ?_
          rw [pp_digits]
          refine ⟨_, _, _, _, _, _, rfl, upd_same, (upd_ne ncp).trans (X9 _ _ ((upd_ne ncp).trans (X8 _ _ hc7))), by omega, by decide, by decide, ?_⟩
          exact Kp.set (Kp.trans (Kp.set (Kp.trans K6 (Kp.of (X7.trans X8)))) (Kp.of X9))
      · exact ⟨_, _, _, _, _, _, rfl, X3 _ _ hp2, X3 _ _ hc2, i0, d0, d1, Kp.trans K2 (Kp.of X3)⟩
    · rintro σ' H3 ⟨i', r', d', v2, v3, v4, rfl, hp3, hc3, i0', d0', d1', K3⟩
      refine q_when (et_test (ev_op (ev_dgetK (ev_var rfl) ev_c hp3 pk_digits) ev_c rv_I0)) (fun q H4 X4 => ?_) (fun q H4 X4 => ?_)
      · have hd : 0 < d' := of_decide_eq_true q
        have hp4 := X4 _ _ hp3
        refine q_dput hp4 (v := .int (d' - 1)) (ev_op (ev_dgetK (ev_var rfl) ev_c hp4 pk_digits) ev_c rv_I0) (ev_var rfl) ev_c (by show 6 < 100000; decide) fun H5 X5 => ?_
        rw [pp_digits]
        have hp5 : (upd H5 p (.dK (penK c i' r' (d' - 1) m u))) p = some (.dK (penK c i' r' (d' - 1) m u)) := upd_same
        refine q_asg (v := .int (r' % b)) (ev_op (ev_cb (ea_cons (ev_dgetK (ev_var rfl) ev_c hp5 pk_rest) ea_nil) (fun H2 _ _ q => .inl ⟨_, rfl, q H2 (Ex.refl H2)⟩)) (ev_var rfl) (rv_I b0)) fun H6 X6 => ?_
        have hp6 := X6 _ _ hp5
        refine q_dput hp6 (v := .int (r' / b)) (ev_op (ev_dgetK (ev_var rfl) ev_c hp6 pk_rest) (ev_var rfl) (rv_I ⟨b0, Way.log_le b0 b1⟩)) (ev_var rfl) ev_c (by show 6 < 100000; decide) fun H7 X7 => ?_
        rw [pp_rest]
        refine s_ret (ev_var rfl) fun H8 X8 => ?_
        refine kont _ _ (Kp.trans (Kp.set (Kp.trans (Kp.set (Kp.trans K3 (Kp.of (X4.trans X5)))) (Kp.of (X6.trans X7)))) (Kp.of X8)) ⟨cs, _, _, _, _, _, X8 _ _ upd_same, X8 _ _ ((upd_ne ncp).trans (X7 _ _ (X6 _ _ ((upd_ne ncp).trans (X5 _ _ (X4 _ _ hc3)))))), i0', by omega, by omega, m0, m1, hu.1, hu.2⟩ (Int.emod_nonneg _ (by omega)) (Int.emod_lt_of_pos _ b0)
      · have hp4 := X4 _ _ hp3
        refine q_dput hp4 (v := .int ((m * 69621 + u * 16807 + 5) % 2147483647)) (ev_op (ev_cb (ea_cons (ev_op (ev_op (ev_op (ev_dgetK (ev_var rfl) ev_c hp4 pk_mix) ev_c (rv_I (.inr (by decide)))) (ev_op (ev_dgetK (ev_var rfl) ev_c hp4 pk_turn) ev_c (rv_I (.inr (by decide)))) rv_I0) ev_c rv_I0) ea_nil) (fun H2 _ _ q => .inl ⟨_, rfl, q H2 (Ex.refl H2)⟩)) ev_c (rv_I hM2)) (ev_var rfl) ev_c (by show 6 < 100000; decide) fun H5 X5 => ?_
        rw [pp_mix]
        have f0 : 0 ≤ (m * 69621 + u * 16807 + 5) % 2147483647 := Int.emod_nonneg _ (by decide)
        have f1 : (m * 69621 + u * 16807 + 5) % 2147483647 < 2147483647 := Int.emod_lt_of_pos _ hM2
        revert f0 f1
        generalize (m * 69621 + u * 16807 + 5) % 2147483647 = f
        intro f0 f1
        have hp5 : (upd H5 p (.dK (penK c i' r' d' f u))) p = some (.dK (penK c i' r' d' f u)) := upd_same
        refine s_ret (v := .int ((f * f + u) % 2147483579 / 7 % b)) (ev_op (ev_op (ev_op (ev_cb (ea_cons (ev_op (ev_op (ev_dgetK (ev_var rfl) ev_c hp5 pk_mix) (ev_dgetK (ev_var rfl) ev_c hp5 pk_mix) (rv_I (.inl ⟨by omega, by omega⟩))) (ev_dgetK (ev_var rfl) ev_c hp5 pk_turn) rv_I0) ea_nil) (fun H2 _ _ q => .inl ⟨_, rfl, q H2 (Ex.refl H2)⟩)) ev_c (rv_I (by decide : (0 : Int) < 2147483579))) ev_c (rv_I ⟨by decide, by decide⟩)) (ev_var rfl) (rv_I b0)) fun H6 X6 => ?_
        exact kont _ _ (Kp.trans (Kp.set (Kp.trans K3 (Kp.of (X4.trans X5)))) (Kp.of X6)) ⟨cs, _, _, _, _, _, X6 _ _ hp5, X6 _ _ ((upd_ne ncp).trans (X5 _ _ (X4 _ _ hc3))), i0', d0', d1', f0, by omega, hu.1, hu.2⟩ (Int.emod_nonneg _ (by omega)) (Int.emod_lt_of_pos _ b0)
end
end K00

namespace K00
open PySem L2 Way Evl
section
variable {P : Program} {w : World} {K : PySem.W.Frag} {mg : Str → Option Value} {base : Heap}
theorem ok_BadField_init (T : Txt P K mg) : FnOk P w K mg base CX0 1 T.f_BadField_init T.d_BadField_init P_BadField_init (Way.spX1 T.C_BadField "name") :=
  Way.superOk T.S_BadField T.X_BadField.oex sc_BadField_init (fun vs H Q E h => by obtain ⟨a, v, rfl, _⟩ := h; rfl) rfl rfl rfl rfl T.b_super (fun _ => rfl) (fun _ => rfl) (fun _ => ⟨_, rfl⟩) (fun A outer s H vs Q E hr h => by
    obtain ⟨a, v, rfl, ha, k⟩ := h
    exact ⟨a, [v], rfl, ha, _, (pss_one (ps_ost (pv 0) (pv 1))), Way.init1 T.X_BadField.oex T.na_BadField_name ha k⟩)
theorem ok_BadKind_init (T : Txt P K mg) : FnOk P w K mg base CX0 1 T.f_BadKind_init T.d_BadKind_init P_BadKind_init (Way.spX1 T.C_BadKind "name") :=
  Way.superOk T.S_BadKind T.X_BadKind.oex sc_BadKind_init (fun vs H Q E h => by obtain ⟨a, v, rfl, _⟩ := h; rfl) rfl rfl rfl rfl T.b_super (fun _ => rfl) (fun _ => rfl) (fun _ => ⟨_, rfl⟩) (fun A outer s H vs Q E hr h => by
    obtain ⟨a, v, rfl, ha, k⟩ := h
    exact ⟨a, [v], rfl, ha, _, (pss_one (ps_ost (pv 0) (pv 1))), Way.init1 T.X_BadKind.oex T.na_BadKind_name ha k⟩)
theorem ok_BadHouse_init (T : Txt P K mg) : FnOk P w K mg base CX0 1 T.f_BadHouse_init T.d_BadHouse_init P_BadHouse_init (Way.spX1 T.C_BadHouse "name") :=
  Way.superOk T.S_BadHouse T.X_BadHouse.oex sc_BadHouse_init (fun vs H Q E h => by obtain ⟨a, v, rfl, _⟩ := h; rfl) rfl rfl rfl rfl T.b_super (fun _ => rfl) (fun _ => rfl) (fun _ => ⟨_, rfl⟩) (fun A outer s H vs Q E hr h => by
    obtain ⟨a, v, rfl, ha, k⟩ := h
    exact ⟨a, [v], rfl, ha, _, (pss_one (ps_ost (pv 0) (pv 1))), Way.init1 T.X_BadHouse.oex T.na_BadHouse_name ha k⟩)
theorem ok_UnknownKind_init (T : Txt P K mg) : FnOk P w K mg base CX0 1 T.f_UnknownKind_init T.d_UnknownKind_init P_UnknownKind_init (Way.spX1 T.C_UnknownKind "name") :=
  Way.superOk T.S_UnknownKind T.X_UnknownKind.oex sc_UnknownKind_init (fun vs H Q E h => by obtain ⟨a, v, rfl, _⟩ := h; rfl) rfl rfl rfl rfl T.b_super (fun _ => rfl) (fun _ => rfl) (fun _ => ⟨_, rfl⟩) (fun A outer s H vs Q E hr h => by
    obtain ⟨a, v, rfl, ha, k⟩ := h
    exact ⟨a, [v], rfl, ha, _, (pss_one (ps_ost (pv 0) (pv 1))), Way.init1 T.X_UnknownKind.oex T.na_UnknownKind_name ha k⟩)
theorem ok_UnknownField_init (T : Txt P K mg) : FnOk P w K mg base CX0 1 T.f_UnknownField_init T.d_UnknownField_init P_UnknownField_init (Way.spX2 T.C_UnknownField "kind" "name") :=
  Way.superOk T.S_UnknownField T.X_UnknownField.oex sc_UnknownField_init (fun vs H Q E h => by obtain ⟨a, v, w, rfl, _⟩ := h; rfl) rfl rfl rfl rfl T.b_super (fun _ => rfl) (fun _ => rfl) (fun _ => ⟨_, rfl⟩) (fun A outer s H vs Q E hr h => by
    obtain ⟨a, v, w, rfl, ha, k⟩ := h
    exact ⟨a, [v, w], rfl, ha, _, (pss_cons (ps_ost (pv 0) (pv 1))
      (pss_one (ps_ost (pv 0) (pv 2)))), Way.init2 T.X_UnknownField.oex T.na_UnknownField_kind T.na_UnknownField_name ha k⟩)
theorem ok_BadWeb_init (T : Txt P K mg) : FnOk P w K mg base CX0 1 T.f_BadWeb_init T.d_BadWeb_init P_BadWeb_init (Way.spX1 T.C_BadWeb "thing") :=
  Way.superOk T.S_BadWeb T.X_BadWeb.oex sc_BadWeb_init (fun vs H Q E h => by obtain ⟨a, v, rfl, _⟩ := h; rfl) rfl rfl rfl rfl T.b_super (fun _ => rfl) (fun _ => rfl) (fun _ => ⟨_, rfl⟩) (fun A outer s H vs Q E hr h => by
    obtain ⟨a, v, rfl, ha, k⟩ := h
    exact ⟨a, [v], rfl, ha, _, (pss_one (ps_ost (pv 0) (pv 1))), Way.init1 T.X_BadWeb.oex T.na_BadWeb_thing ha k⟩)
theorem ok_BadText_init (T : Txt P K mg) : FnOk P w K mg base CX0 1 T.f_BadText_init T.d_BadText_init P_BadText_init (Way.spX1 T.C_BadText "line") :=
  Way.superOk T.S_BadText T.X_BadText.oex sc_BadText_init (fun vs H Q E h => by obtain ⟨a, v, rfl, _⟩ := h; rfl) rfl rfl rfl rfl T.b_super (fun _ => rfl) (fun _ => rfl) (fun _ => ⟨_, rfl⟩) (fun A outer s H vs Q E hr h => by
    obtain ⟨a, v, rfl, ha, k⟩ := h
    exact ⟨a, [v], rfl, ha, _, (pss_one (ps_ost (pv 0) (pv 1))), Way.init1 T.X_BadText.oex T.na_BadText_line ha k⟩)
theorem ok_BadManner_init (T : Txt P K mg) : FnOk P w K mg base CX0 1 T.f_BadManner_init T.d_BadManner_init P_BadManner_init (Way.spX1 T.C_BadManner "name") :=
  Way.superOk T.S_BadManner T.X_BadManner.oex sc_BadManner_init (fun vs H Q E h => by obtain ⟨a, v, rfl, _⟩ := h; rfl) rfl rfl rfl rfl T.b_super (fun _ => rfl) (fun _ => rfl) (fun _ => ⟨_, rfl⟩) (fun A outer s H vs Q E hr h => by
    obtain ⟨a, v, rfl, ha, k⟩ := h
    exact ⟨a, [v], rfl, ha, _, (pss_one (ps_ost (pv 0) (pv 1))), Way.init1 T.X_BadManner.oex T.na_BadManner_name ha k⟩)
theorem ok_BadClient_init (T : Txt P K mg) : FnOk P w K mg base CX0 1 T.f_BadClient_init T.d_BadClient_init P_BadClient_init (Way.spX1 T.C_BadClient "line") :=
  Way.superOk T.S_BadClient T.X_BadClient.oex sc_BadClient_init (fun vs H Q E h => by obtain ⟨a, v, rfl, _⟩ := h; rfl) rfl rfl rfl rfl T.b_super (fun _ => rfl) (fun _ => rfl) (fun _ => ⟨_, rfl⟩) (fun A outer s H vs Q E hr h => by
    obtain ⟨a, v, rfl, ha, k⟩ := h
    exact ⟨a, [v], rfl, ha, _, (pss_one (ps_ost (pv 0) (pv 1))), Way.init1 T.X_BadClient.oex T.na_BadClient_line ha k⟩)
theorem ok_BadTravel_init (T : Txt P K mg) : FnOk P w K mg base CX0 1 T.f_BadTravel_init T.d_BadTravel_init P_BadTravel_init (Way.spX2 T.C_BadTravel "kind" "field") :=
  Way.superOk T.S_BadTravel T.X_BadTravel.oex sc_BadTravel_init (fun vs H Q E h => by obtain ⟨a, v, w, rfl, _⟩ := h; rfl) rfl rfl rfl rfl T.b_super (fun _ => rfl) (fun _ => rfl) (fun _ => ⟨_, rfl⟩) (fun A outer s H vs Q E hr h => by
    obtain ⟨a, v, w, rfl, ha, k⟩ := h
    exact ⟨a, [v, w], rfl, ha, _, (pss_cons (ps_ost (pv 0) (pv 1))
      (pss_one (ps_ost (pv 0) (pv 2)))), Way.init2 T.X_BadTravel.oex T.na_BadTravel_kind T.na_BadTravel_field ha k⟩)
theorem ok_BadReader_init (T : Txt P K mg) : FnOk P w K mg base CX0 1 T.f_BadReader_init T.d_BadReader_init P_BadReader_init (Way.spX1 T.C_BadReader "kind") :=
  Way.superOk T.S_BadReader T.X_BadReader.oex sc_BadReader_init (fun vs H Q E h => by obtain ⟨a, v, rfl, _⟩ := h; rfl) rfl rfl rfl rfl T.b_super (fun _ => rfl) (fun _ => rfl) (fun _ => ⟨_, rfl⟩) (fun A outer s H vs Q E hr h => by
    obtain ⟨a, v, rfl, ha, k⟩ := h
    exact ⟨a, [v], rfl, ha, _, (pss_one (ps_ost (pv 0) (pv 1))), Way.init1 T.X_BadReader.oex T.na_BadReader_kind ha k⟩)
theorem ok_BadRow_init (T : Txt P K mg) : FnOk P w K mg base CX0 1 T.f_BadRow_init T.d_BadRow_init P_BadRow_init (Way.spX1 T.C_BadRow "travel") :=
  Way.superOk T.S_BadRow T.X_BadRow.oex sc_BadRow_init (fun vs H Q E h => by obtain ⟨a, v, rfl, _⟩ := h; rfl) rfl rfl rfl rfl T.b_super (fun _ => rfl) (fun _ => rfl) (fun _ => ⟨_, rfl⟩) (fun A outer s H vs Q E hr h => by
    obtain ⟨a, v, rfl, ha, k⟩ := h
    exact ⟨a, [v], rfl, ha, _, (pss_one (ps_ost (pv 0) (pv 1))), Way.init1 T.X_BadRow.oex T.na_BadRow_travel ha k⟩)
theorem ok_Endless_init (T : Txt P K mg) : FnOk P w K mg base CX0 1 T.f_Endless_init T.d_Endless_init P_Endless_init (Way.spX1 T.C_Endless "travel") :=
  Way.superOk T.S_Endless T.X_Endless.oex sc_Endless_init (fun vs H Q E h => by obtain ⟨a, v, rfl, _⟩ := h; rfl) rfl rfl rfl rfl T.b_super (fun _ => rfl) (fun _ => rfl) (fun _ => ⟨_, rfl⟩) (fun A outer s H vs Q E hr h => by
    obtain ⟨a, v, rfl, ha, k⟩ := h
    exact ⟨a, [v], rfl, ha, _, (pss_one (ps_ost (pv 0) (pv 1))), Way.init1 T.X_Endless.oex T.na_Endless_travel ha k⟩)
theorem ok_TooLarge_init (T : Txt P K mg) : FnOk P w K mg base CX0 1 T.f_TooLarge_init T.d_TooLarge_init P_TooLarge_init (Way.spX1 T.C_TooLarge "count") :=
  Way.superOk T.S_TooLarge T.X_TooLarge.oex sc_TooLarge_init (fun vs H Q E h => by obtain ⟨a, v, rfl, _⟩ := h; rfl) rfl rfl rfl rfl T.b_super (fun _ => rfl) (fun _ => rfl) (fun _ => ⟨_, rfl⟩) (fun A outer s H vs Q E hr h => by
    obtain ⟨a, v, rfl, ha, k⟩ := h
    exact ⟨a, [v], rfl, ha, _, (pss_one (ps_ost (pv 0) (pv 1))), Way.init1 T.X_TooLarge.oex T.na_TooLarge_count ha k⟩)
theorem ok_BadSaved_init (T : Txt P K mg) : FnOk P w K mg base CX0 1 T.f_BadSaved_init T.d_BadSaved_init P_BadSaved_init (Way.spX1 T.C_BadSaved "line") :=
  Way.superOk T.S_BadSaved T.X_BadSaved.oex sc_BadSaved_init (fun vs H Q E h => by obtain ⟨a, v, rfl, _⟩ := h; rfl) rfl rfl rfl rfl T.b_super (fun _ => rfl) (fun _ => rfl) (fun _ => ⟨_, rfl⟩) (fun A outer s H vs Q E hr h => by
    obtain ⟨a, v, rfl, ha, k⟩ := h
    exact ⟨a, [v], rfl, ha, _, (pss_one (ps_ost (pv 0) (pv 1))), Way.init1 T.X_BadSaved.oex T.na_BadSaved_line ha k⟩)
theorem ok_BadComparer_init (T : Txt P K mg) : FnOk P w K mg base CX0 1 T.f_BadComparer_init T.d_BadComparer_init P_BadComparer_init (Way.spX1 T.C_BadComparer "kind") :=
  Way.superOk T.S_BadComparer T.X_BadComparer.oex sc_BadComparer_init (fun vs H Q E h => by obtain ⟨a, v, rfl, _⟩ := h; rfl) rfl rfl rfl rfl T.b_super (fun _ => rfl) (fun _ => rfl) (fun _ => ⟨_, rfl⟩) (fun A outer s H vs Q E hr h => by
    obtain ⟨a, v, rfl, ha, k⟩ := h
    exact ⟨a, [v], rfl, ha, _, (pss_one (ps_ost (pv 0) (pv 1))), Way.init1 T.X_BadComparer.oex T.na_BadComparer_kind ha k⟩)
theorem ok_BadChange_init (T : Txt P K mg) : FnOk P w K mg base CX0 1 T.f_BadChange_init T.d_BadChange_init P_BadChange_init (Way.spX1 T.C_BadChange "at") :=
  Way.superOk T.S_BadChange T.X_BadChange.oex sc_BadChange_init (fun vs H Q E h => by obtain ⟨a, v, rfl, _⟩ := h; rfl) rfl rfl rfl rfl T.b_super (fun _ => rfl) (fun _ => rfl) (fun _ => ⟨_, rfl⟩) (fun A outer s H vs Q E hr h => by
    obtain ⟨a, v, rfl, ha, k⟩ := h
    exact ⟨a, [v], rfl, ha, _, (pss_one (ps_ost (pv 0) (pv 1))), Way.init1 T.X_BadChange.oex T.na_BadChange_at ha k⟩)
theorem ok_BadName_init (T : Txt P K mg) : FnOk P w K mg base CX0 1 T.f_BadName_init T.d_BadName_init P_BadName_init (Way.spX1 T.C_BadName "name") :=
  Way.superOk T.S_BadName T.X_BadName.oex sc_BadName_init (fun vs H Q E h => by obtain ⟨a, v, rfl, _⟩ := h; rfl) rfl rfl rfl rfl T.b_super (fun _ => rfl) (fun _ => rfl) (fun _ => ⟨_, rfl⟩) (fun A outer s H vs Q E hr h => by
    obtain ⟨a, v, rfl, ha, k⟩ := h
    exact ⟨a, [v], rfl, ha, _, (pss_one (ps_ost (pv 0) (pv 1))), Way.init1 T.X_BadName.oex T.na_BadName_name ha k⟩)
end
/-! plain values -/
def Txs (x : Str) : Prop := x.cps.toList.all (fun c => decide (c < 16 ^ 8)) = true ∧ x.cps.size ≤ 200
def PV (H : Hp) (v : V) (d : PyData) : Prop :=
  (∃ i : Int, v = .int i ∧ d = .int i ∧ i.natAbs.log2 < 200) ∨ (∃ x, v = .str x ∧ d = .str x ∧ Txs x) ∨ (v = .non ∧ d = .none) ∨ (∃ b, v = .bl b ∧ d = .bool b) ∨
  (∃ a n, v = .ref a ∧ H a = some (.tup [.int n, .str "x"]) ∧ d = .tuple [.int n, .str "x"] ∧ n.natAbs.log2 < 200) ∨ (∃ a n, v = .ref a ∧ H a = some (.lst [.int n]) ∧ d = .list [.int n] ∧ n.natAbs.log2 < 200) ∨
  (∃ a, v = .ref a ∧ H a = some (.tup []) ∧ d = .tuple [])
theorem PV.mono {H H' : Hp} {v : V} {d : PyData} (e : Ex H H') (h : PV H v d) : PV H' v d := by
  rcases h with h | h | h | h | ⟨a, n, h1, h2, h3⟩ | ⟨a, n, h1, h2, h3⟩ | ⟨a, h1, h2, h3⟩
  · exact .inl h
  · exact .inr (.inl h)
  · exact .inr (.inr (.inl h))
  · exact .inr (.inr (.inr (.inl h)))
  · exact .inr (.inr (.inr (.inr (.inl ⟨a, n, h1, e _ _ h2, h3⟩))))
  · exact .inr (.inr (.inr (.inr (.inr (.inl ⟨a, n, h1, e _ _ h2, h3⟩)))))
  · exact .inr (.inr (.inr (.inr (.inr (.inr ⟨a, h1, e _ _ h2, h3⟩)))))
theorem PV.kp {H H' : Hp} {s : Addr} {v : V} {d : PyData} {kvs : List (Key × V)} (hs : H s = some (.dK kvs)) (e : Kp s H H') (h : PV H v d) : PV H' v d := by
  have ne : ∀ {a o}, H a = some o → (∀ k, o ≠ .dK k) → a ≠ s := fun {a o} h n z => by rw [z, hs] at h; exact n _ (Option.some.inj h).symm
  rcases h with h | h | h | h | ⟨a, n, h1, h2, h3⟩ | ⟨a, n, h1, h2, h3⟩ | ⟨a, h1, h2, h3⟩
  · exact .inl h
  · exact .inr (.inl h)
  · exact .inr (.inr (.inl h))
  · exact .inr (.inr (.inr (.inl h)))
  · exact .inr (.inr (.inr (.inr (.inl ⟨a, n, h1, e _ _ (ne h2 (fun k z => nomatch z)) h2, h3⟩))))
  · exact .inr (.inr (.inr (.inr (.inr (.inl ⟨a, n, h1, e _ _ (ne h2 (fun k z => nomatch z)) h2, h3⟩)))))
  · exact .inr (.inr (.inr (.inr (.inr (.inr ⟨a, h1, e _ _ (ne h2 (fun k z => nomatch z)) h2, h3⟩)))))
theorem sw_bl {b : Bool} {m : Nat} : Shw 0 m (.bool b) := ⟨by simp [PyData.showable], by cases b <;> decide +kernel, by simp [PyData.weight], by simp [PyData.depth], by simp [PyData.hasDict]⟩
theorem sw_x {m : Nat} : Shw 1 m (.str "x") := by
  have e1 : (("x" : Str)).cps.size = 1 := by decide +kernel
  exact e1 ▸ sw_str (by decide +kernel)
theorem PV.dp {K : PySem.W.Frag} {H : Hp} {v : V} {d : PyData} (h : PV H v d) : Dp K H v d := by
  rcases h with ⟨i, rfl, rfl, _⟩ | ⟨x, rfl, rfl, _⟩ | ⟨rfl, rfl⟩ | ⟨b, rfl, rfl⟩ | ⟨a, n, rfl, h2, rfl, _⟩ | ⟨a, n, rfl, h2, rfl, _⟩ | ⟨a, rfl, h2, rfl⟩
  · exact .int i
  · exact .str x
  · exact .non
  · exact .bl b
  · exact .tup (SqT.of h2) (.cons (.int n) (.cons (.str _) .nil))
  · exact .lst (SqL.of h2) (.cons (.int n) .nil)
  · exact .tup (SqT.of h2) .nil
theorem PV.sw {H : Hp} {v : V} {d : PyData} (h : PV H v d) : Shw 300 3 d := by
  rcases h with ⟨i, rfl, rfl, h⟩ | ⟨x, rfl, rfl, h1, h2⟩ | ⟨rfl, rfl⟩ | ⟨b, rfl, rfl⟩ | ⟨a, n, rfl, h2, rfl, h⟩ | ⟨a, n, rfl, h2, rfl, h⟩ | ⟨a, rfl, h2, rfl⟩
  · exact (sw_int h).le (by decide) (Nat.le_refl _)
  · exact (sw_str h1).le (by omega) (Nat.le_refl _)
  · exact sw_non.le (by decide) (Nat.le_refl _)
  · exact sw_bl.le (by decide) (Nat.le_refl _)
  · exact (sw_tup (m := 2) (sw_cons (sw_int h) (sw_cons sw_x sw_nil))).le (by decide) (Nat.le_refl _)
  · exact (sw_lst (m := 2) (sw_cons (sw_int h) sw_nil)).le (by decide) (Nat.le_refl _)
  · exact (sw_tup (m := 2) sw_nil).le (by decide) (Nat.le_refl _)
/-- all of vs are plain -/
def PVs (H : Hp) (vs : List V) : Prop := ∀ v ∈ vs, ∃ d, PV H v d
theorem pvs_pair {H : Hp} : ∀ {vs : List V}, PVs H vs → ∃ ds, Paired (PV H) vs ds
  | [], _ => ⟨[], .nil⟩
  | v :: vs, h => by
    obtain ⟨d, hd⟩ := h v (List.mem_cons_self ..)
    obtain ⟨ds, h1⟩ := pvs_pair (vs := vs) fun x hx => h x (List.mem_cons_of_mem _ hx)
    exact ⟨d :: ds, .cons hd h1⟩
theorem pva_dp {K : PySem.W.Frag} {H : Hp} : ∀ {vs : List V} {ds : List PyData}, Paired (PV H) vs ds → DpAll K H vs ds
  | _, _, .nil => .nil
  | _, _, .cons a r => .cons a.dp (pva_dp r)
theorem pva_sw {H : Hp} : ∀ {vs : List V} {ds : List PyData}, Paired (PV H) vs ds → ShwA (301 * vs.length) 3 ds
  | _, _, .nil => sw_nil
  | _, _, .cons a r => (sw_cons a.sw (pva_sw r)).le (by rw [List.length_cons, Nat.mul_add]; omega)
/-- two lists of the same plain things -/
def spSame : Sp := fun vs H Q _ => ∃ (a b : Addr) (xs : List V), vs = [.ref a, .ref b] ∧ H a = some (.lst xs) ∧ H b = some (.lst xs) ∧ PVs H xs ∧ xs.length ≤ 10 ∧ ∀ H', Ex H H' → Q (.bl true) H'
def spOneOf (K : PySem.W.Frag) : Sp := fun vs H Q _ => ∃ (p c l : Addr) (k : Nat) (xs : List V), vs = [.ref p, .ref l] ∧ Pen H p c k ∧ k ≤ 1000 ∧ H l = some (.lst xs) ∧ l ≠ p ∧ 0 < xs.length ∧ xs.length ≤ 100 ∧ ∀ H' v, v ∈ xs → Kp p H H' → Pen H' p c (k + 1) → Q v H'
def spPlain : Sp := fun vs H Q _ => ∃ (p c : Addr) (k : Nat), vs = [.ref p] ∧ Pen H p c k ∧ k ≤ 500 ∧ ∀ H' v d, Kp p H H' → Pen H' p c (k + 3) → PV H' v d → Q v H'
section
variable {P : Program} {w : World} {K : PySem.W.Frag} {mg : Str → Option Value} {base : Heap}
theorem ok_same (T : Txt P K mg) : FnG P w K mg base CX0 1 T.f_same T.d_same P_same spSame := by
  refine okG T.F_same sc_same (fun vs H Q E h => ?_) (fun cdv A outer s H vs Q E hgd hr h => ?_)
  · obtain ⟨a, b, xs, rfl, _⟩ := h
    rfl
  · obtain ⟨a, b, xs, rfl, ha, hb, hx, hl, kont⟩ := h
    refine ⟨_, (pss_one (ps_ret (pe_cmpR op_eq (pe_callB (Way.call_reprO hgd hr) (by rfl) T.b_repr (by decide +kernel) (pa_cons (pv 0) pa_nil)) (pe_callB (Way.call_reprO hgd hr) (by rfl) T.b_repr (by decide +kernel) (pa_cons (pv 1) pa_nil)) (nomark _)))), ?_⟩
    obtain ⟨ds, h1⟩ := pvs_pair hx
    have sw : Shw (301 * xs.length) 4 (.list ds) := sw_lst (pva_sw h1)
    have go : ∀ {i : Nat} {c : Addr}, ([some (.ref a), some (.ref b)] : L2.St)[i]? = some (some (.ref c)) → H c = some (.lst xs) → Ev (tCB (rReprO K) (tCons (tVar i) tNil)) [some (.ref a), some (.ref b)] H (.str (PyData.list ds).shown) := fun {i c} hi hc =>
      ev_cb (ea_cons (ev_var hi) ea_nil) fun H1 X1 Q' q => by
        exact ⟨.ref c, .list ds, _, _, rfl, .inr ⟨c, rfl⟩, .lst (SqL.of (X1 _ _ hc)) (pva_dp (Paired.mapP h1 fun v d q => q.mono X1)), sw, by omega, by decide, q H1 (Ex.refl H1)⟩
    refine s_ret (v := .bl true) (ev_is (ev_op (go rfl ha) (go rfl hb) (rv_eq rfl)) (by simp)) fun H1 X1 => kont H1 X1
end
end K00

namespace K00
open PySem L2 Way Evl
theorem log_num {n : Int} (h : n.natAbs < 2 ^ 100) : n.natAbs.log2 < 200 := by
  by_cases z : n.natAbs = 0
  · rw [z]; decide
  · have := (Nat.log2_lt z).mpr h
    omega
section
variable {P : Program} {w : World} {K : PySem.W.Frag} {mg : Str → Option Value} {base : Heap}
/-- take(pen, n) -/
theorem takeN {tn : TE} {σ : L2.St} {H : Hp} {p c : Addr} {k j : Nat} {E : XK} {n : Int} {Q : VK} (hσ : σ[j]? = some (some (.ref p))) (hn : Ev tn σ H (.int n)) (hP : Pen H p c k) (hk : k ≤ 100000) (h0 : 0 < n) (h1 : n ≤ 10000000000000000)
    (kont : ∀ H' d, Kp p H H' → Pen H' p c (k + 1) → 0 ≤ d → d < n → Q (.int d) H') : tCall spTake [] E (tCons (tVar j) (tCons tn tNil)) σ H Q :=
  ⟨_, hσ, hn H (Ex.refl H) _ fun H1 X1 => ⟨p, c, n, k, rfl, hP.mono X1, hk, h0, h1, fun H2 d K2 P2 d0 d1 => kont H2 d (Kp.trans (Kp.of X1) K2) P2 d0 d1⟩⟩
theorem ok_one_of (T : Txt P K mg) : FnOk P w K mg base CX0 2 T.f_one_of T.d_one_of P_one_of (spOneOf K) := by
  have G_take := ok_take (P := P) (w := w) (base := base) T
  refine T.F_one_of.ok sc_one_of (fun vs H Q E h => ?_) (fun cdv A outer s H vs Q E hr h => ?_)
  · obtain ⟨p, c, l, k, xs, rfl, _⟩ := h
    rfl
  · obtain ⟨p, c, l, k, xs, rfl, hP, hk, hl, hlp, h0, h1, kont⟩ := h
    refine ⟨_, (pss_one (ps_ret (pe_ix ix_list (pv 1) (pe_call G_take hr (by rfl) T.g_take T.F_take.kp T.B_take .nil pass0 (pa_cons (pv 0) (pa_cons (pe_callB call_len_seq (by rfl) T.b_len (by decide +kernel) (pa_cons (pv 1) pa_nil)) pa_nil))) (fun _ _ => rfl)))), ?_⟩
    refine ⟨_, rfl, takeN (n := (xs.length : Int)) rfl (ev_cb (ea_cons (ev_var rfl) ea_nil) (rc_lenL (K := K) (sq_of hl))) hP (by omega) (by omega) (by omega) fun H1 d K1 P1 d0 d1 => ?_⟩
    have hd : d.toNat < xs.length := by omega
    refine ⟨l, _, _, _, rfl, rfl, SqL.of (K1 _ _ hlp hl), at_of (j := d.toNat) (by omega) (List.getElem?_eq_getElem hd), ?_⟩
    exact kont _ _ (List.getElem_mem hd) K1 P1
theorem pvs_cons {H : Hp} {v : V} {vs : List V} (h : ∃ d, PV H v d) (r : PVs H vs) : PVs H (v :: vs) := fun x hx => by
  rcases List.mem_cons.mp hx with rfl | hx
  · exact h
  · exact r x hx
theorem ex_u {te : TE} {σ : L2.St} {H : Hp} {xs : List V} {R : V → Hp → Prop} (h : EvU te σ H xs) (r : ∀ p H1, H1 p = some (.tup xs) → R (.ref p) H1) : EvX te σ H R := fun H1 e Q q => h H1 e _ fun p H2 hp e2 h2 => q _ _ e2 (r p H2 h2)
theorem ex_l' {te : TE} {σ : L2.St} {H : Hp} {xs : List V} {R : V → Hp → Prop} (h : EvL te σ H xs) (r : ∀ p H1, H1 p = some (.lst xs) → R (.ref p) H1) : EvX te σ H R := fun H1 e Q q => h H1 e _ fun p H2 hp e2 h2 => q _ _ e2 (r p H2 h2)
theorem int_txs {n : Int} (h : n.natAbs.log2 < 100) : Txs (Str.ofString (toString n)) := by
  refine ⟨?_, ?_⟩
  · rw [Str.ofString_eq_toList]
    refine List.all_eq_true.mpr fun x hx => ?_
    obtain ⟨ch, _, rfl⟩ := List.mem_map.mp hx
    refine decide_eq_true ?_
    have h1 : ch.toNat < 4294967296 := ch.val.toNat_lt
    omega
  · have h1 := int_text_length_le (a := n) (k := 100) (by decide) h
    have h2 := PySem.ofString_length (toString n)
    show (Str.ofString (toString n)).length ≤ 200
    omega
theorem rc_str {H : Hp} {n : Int} (h : n.natAbs.log2 < 1920) : RC (fun xs H Q => ∃ i : Int, xs = [V.int i] ∧ i.natAbs.log2 < 1920 ∧ Q (.str (Str.ofString (toString i))) H) [.int n] H (.str (Str.ofString (toString n))) := fun H1 _ _ q => ⟨n, rfl, h, q H1 (Ex.refl H1)⟩
theorem ok_plain (T : Txt P K mg) : FnOk P w K mg base CX0 3 T.f_plain T.d_plain P_plain spPlain := by
  have G_one_of := ok_one_of (P := P) (w := w) (base := base) T
  have G_take := ok_take (P := P) (w := w) (base := base) T
  refine T.F_plain.ok sc_plain (fun vs H Q E h => ?_) (fun cdv A outer s H vs Q E hr h => ?_)
  · obtain ⟨p, c, k, rfl, _⟩ := h
    rfl
  · obtain ⟨p, c, k, rfl, hP, hk, kont⟩ := h
    refine ⟨_, (pss_cons (ps_set (i := 1) sc_plain.nd rfl (Or.inl rfl) (pe_op op_add (pe_op op_mul (pe_call G_take (hr.mono (by decide)) (by rfl) T.g_take T.F_take.kp T.B_take .nil pass0 (pa_cons (pv 0) (pa_cons (pe_op op_pow pe_int pe_int) pa_nil))) (pe_op op_pow pe_int pe_int)) (pe_call G_take (hr.mono (by decide)) (by rfl) T.g_take T.F_take.kp T.B_take .nil pass0 (pa_cons (pv 0) (pa_cons (pe_op op_pow pe_int pe_int) pa_nil)))))
      (pss_one (ps_ret (pe_call G_one_of hr (by rfl) T.g_one_of T.F_one_of.kp T.B_one_of .nil pass0 (pa_cons (pv 0) (pa_cons (pe_lst (pa_cons (pv 1) (pa_cons (pe_un un_neg (pv 1)) (pa_cons (pe_callTy call_str_int (by rfl) T.b_str (by decide +kernel) (pa_cons (pv 1) pa_nil)) (pa_cons (pe_tup (pa_cons (pv 1) (pa_cons pe_str pa_nil))) (pa_cons (pe_lst (pa_cons (pv 1) pa_nil)) (pa_cons pe_non (pa_cons pe_bl (pa_cons (pe_tup pa_nil) (pa_cons pe_int pa_nil)))))))))) pa_nil)))))), ?_⟩
    have pw : ∀ (σ : L2.St) (H : Hp), Ev (tOp (rI CPow fun i j => .int (i ^ j.toNat)) (tC (.int 10)) (tC (.int 15))) σ H (.int 1000000000000000) := fun σ H => ev_is (ev_op ev_c ev_c (rv_I ⟨by decide, by decide, by decide⟩)) (by rfl)
    refine takeN rfl (pw _ _) hP (by omega) (by decide) (by decide) fun H1 d1 K1 P1 a0 a1 => ?_
    refine pw _ _ H1 (Ex.refl H1) _ fun H2 X2 => ⟨_, _, rfl, rfl, .inr (by decide), ?_⟩
    refine takeN rfl (pw _ _) (P1.mono X2) (by omega) (by decide) (by decide) fun H3 d2 K3 P3 b0 b1 => ⟨_, _, rfl, rfl, ?_⟩
    have K3' : Kp p H H3 := Kp.trans K1 (Kp.trans (Kp.of X2) K3)
    have ee : ((fun i j => V.int (i + j)) (d1 * 1000000000000000) d2) = V.int (d1 * 1000000000000000 + d2) := rfl
    rw [ee]
    have hn : (d1 * 1000000000000000 + d2).natAbs < 2 ^ 100 := by
      have : d1 * 1000000000000000 ≤ 999999999999999 * 1000000000000000 := Int.mul_le_mul_of_nonneg_right (by omega) (by decide)
      have : 0 ≤ d1 * 1000000000000000 := Int.mul_nonneg a0 (by decide)
      omega
    revert hn
    generalize d1 * 1000000000000000 + d2 = n
    intro hn
    have ln := log_num hn
    have l98 : n.natAbs.log2 < 100 := by
      by_cases z : n.natAbs = 0
      · rw [z]; decide
      · exact (Nat.log2_lt z).mpr hn
    have all : EvXA _ [some (.ref p), some (.int n)] H3 (fun vs H' => PVs H' vs ∧ vs.length = 9) :=
      exa_cons (P := fun v H' => ∃ d, PV H' v d) (R := fun vs H' => PVs H' vs ∧ vs.length = 8) (EvX.of (ev_var (i := 1) rfl) fun H1 _ => ⟨_, .inl ⟨_, rfl, rfl, ln⟩⟩) (
      exa_cons (P := fun v H' => ∃ d, PV H' v d) (R := fun vs H' => PVs H' vs ∧ vs.length = 7) (EvX.of (v := .int (-n)) (ev_un (ev_var (i := 1) rfl) ru_neg) fun H1 _ => ⟨_, .inl ⟨_, rfl, rfl, by rw [Int.natAbs_neg]; exact ln⟩⟩) (
      exa_cons (P := fun v H' => ∃ d, PV H' v d) (R := fun vs H' => PVs H' vs ∧ vs.length = 6) (EvX.of (v := .str (Str.ofString (toString n))) (ev_cb (ea_cons (ev_var (i := 1) rfl) ea_nil) (rc_str (by omega))) fun H1 _ => ⟨_, .inr (.inl ⟨_, rfl, rfl, int_txs l98⟩)⟩) (
      exa_cons (P := fun v H' => ∃ d, PV H' v d) (R := fun vs H' => PVs H' vs ∧ vs.length = 5) (ex_u (eu_tup (ea_cons (ev_var (i := 1) rfl) (ea_cons ev_c ea_nil)) (Nat.le_of_ble_eq_true rfl)) fun q H1 h => ⟨_, .inr (.inr (.inr (.inr (.inl ⟨q, n, rfl, h, rfl, ln⟩))))⟩) (
      exa_cons (P := fun v H' => ∃ d, PV H' v d) (R := fun vs H' => PVs H' vs ∧ vs.length = 4) (ex_l' (el_lst (ea_cons (ev_var (i := 1) rfl) ea_nil) (Nat.le_of_ble_eq_true rfl)) fun q H1 h => ⟨_, .inr (.inr (.inr (.inr (.inr (.inl ⟨q, n, rfl, h, rfl, ln⟩)))))⟩) (
      exa_cons (P := fun v H' => ∃ d, PV H' v d) (R := fun vs H' => PVs H' vs ∧ vs.length = 3) (EvX.of ev_c fun H1 _ => ⟨_, .inr (.inr (.inl ⟨rfl, rfl⟩))⟩) (
      exa_cons (P := fun v H' => ∃ d, PV H' v d) (R := fun vs H' => PVs H' vs ∧ vs.length = 2) (EvX.of ev_c fun H1 _ => ⟨_, .inr (.inr (.inr (.inl ⟨true, rfl, rfl⟩)))⟩) (
      exa_cons (P := fun v H' => ∃ d, PV H' v d) (R := fun vs H' => PVs H' vs ∧ vs.length = 1) (ex_u (eu_tup ea_nil (by decide)) fun q H1 h => ⟨_, .inr (.inr (.inr (.inr (.inr (.inr ⟨q, rfl, h, rfl⟩)))))⟩) (
      exa_cons (P := fun v H' => ∃ d, PV H' v d) (R := fun vs H' => PVs H' vs ∧ vs.length = 0) (EvX.of ev_c fun H1 _ => ⟨_, .inl ⟨0, rfl, rfl, by decide⟩⟩) (
      exa_nil fun H1 => ⟨fun x hx => absurd hx List.not_mem_nil, rfl⟩) (fun v H1 H2 e ⟨d, hd⟩ => ⟨d, hd.mono e⟩) (fun v vs H1 h r => ⟨pvs_cons h r.1, by rw [List.length_cons, r.2]⟩)) (fun v H1 H2 e ⟨d, hd⟩ => ⟨d, hd.mono e⟩) (fun v vs H1 h r => ⟨pvs_cons h r.1, by rw [List.length_cons, r.2]⟩)) (fun v H1 H2 e ⟨d, hd⟩ => ⟨d, hd.mono e⟩) (fun v vs H1 h r => ⟨pvs_cons h r.1, by rw [List.length_cons, r.2]⟩)) (fun v H1 H2 e ⟨d, hd⟩ => ⟨d, hd.mono e⟩) (fun v vs H1 h r => ⟨pvs_cons h r.1, by rw [List.length_cons, r.2]⟩)) (fun v H1 H2 e ⟨d, hd⟩ => ⟨d, hd.mono e⟩) (fun v vs H1 h r => ⟨pvs_cons h r.1, by rw [List.length_cons, r.2]⟩)) (fun v H1 H2 e ⟨d, hd⟩ => ⟨d, hd.mono e⟩) (fun v vs H1 h r => ⟨pvs_cons h r.1, by rw [List.length_cons, r.2]⟩)) (fun v H1 H2 e ⟨d, hd⟩ => ⟨d, hd.mono e⟩) (fun v vs H1 h r => ⟨pvs_cons h r.1, by rw [List.length_cons, r.2]⟩)) (fun v H1 H2 e ⟨d, hd⟩ => ⟨d, hd.mono e⟩) (fun v vs H1 h r => ⟨pvs_cons h r.1, by rw [List.length_cons, r.2]⟩)) (fun v H1 H2 e ⟨d, hd⟩ => ⟨d, hd.mono e⟩) (fun v vs H1 h r => ⟨pvs_cons h r.1, by rw [List.length_cons, r.2]⟩)
    refine ⟨_, rfl, ex_lst all (fun vs H1 H2 e h => ⟨fun v hv => let ⟨d, hd⟩ := h.1 v hv; ⟨d, hd.mono e⟩, h.2⟩) (fun vs H1 h => by rw [h.2]; decide) H3 (Ex.refl H3) _ fun v H4 X4 ⟨l, xs, ev, hl, hx, hlen⟩ => ?_⟩
    subst ev
    have P4 := P3.mono X4
    obtain ⟨kvs, hp4⟩ := P4.here
    have nlp : l ≠ p := fun z => by rw [z, hp4] at hl; cases hl
    refine ⟨p, c, l, k + 2, xs, rfl, P4, by omega, hl, nlp, by omega, by omega, fun H5 v hv K5 P5 => ?_⟩
    obtain ⟨d, hd⟩ := hx v hv
    exact kont H5 v d (Kp.trans K3' (Kp.trans (Kp.of X4) K5)) P5 (hd.kp hp4 K5)
end
end K00

namespace K00
open PySem L2 Way Evl
section
variable {σ : L2.St} {H : Hp} {te tb : TE} {xs ys : List V}
theorem el_catV {p : Addr} (h : Ev te σ H (.ref p)) (hp : H p = some (.lst xs)) (h2 : EvL tb σ H ys) (hl : xs.length + ys.length ≤ 100000) : EvL (tOp rCat te tb) σ H (xs ++ ys) := fun H1 e Q q =>
  h H1 e _ fun H2 e2 => h2 H2 (e.trans e2) _ fun p' H3 hn e3 h3 => ⟨p, p', xs, ys, rfl, rfl, e3 _ _ (e2 _ _ (e _ _ hp)), h3, sz_of hl, fun t ht => q t _ (fresh_back (e2.trans e3) ht) ((e2.trans e3).trans (Ex.new ht)) upd_same⟩
end
section
variable {P : Program} {w : World} {K : PySem.W.Frag} {mg : Str → Option Value} {base : Heap}
def Cs (T : Txt P K mg) : List Addr := [T.C_BadField, T.C_BadKind, T.C_BadHouse, T.C_UnknownKind, T.C_UnknownField, T.C_BadWeb, T.C_BadText, T.C_BadManner, T.C_BadClient, T.C_BadTravel, T.C_BadReader, T.C_BadRow, T.C_Endless, T.C_TooLarge, T.C_BadSaved, T.C_BadStanding, T.C_BadPaper, T.C_BadComparer, T.C_BadChange, T.C_BadName, T.C_Busy]
abbrev nms : List Str := ["BadField", "BadKind", "BadHouse", "UnknownKind", "UnknownField", "BadWeb", "BadText", "BadManner", "BadClient", "BadTravel", "BadReader", "BadRow", "Endless", "TooLarge", "BadSaved", "BadStanding", "BadPaper", "BadComparer", "BadChange", "BadName", "Busy"]
theorem cs_all (T : Txt P K mg) : Paired (fun C nm => ∃ N, XCls K nm C N T.C_WayError) (Cs T) nms := .cons ⟨_, T.X_BadField⟩ (.cons ⟨_, T.X_BadKind⟩ (.cons ⟨_, T.X_BadHouse⟩ (.cons ⟨_, T.X_UnknownKind⟩ (.cons ⟨_, T.X_UnknownField⟩ (.cons ⟨_, T.X_BadWeb⟩ (.cons ⟨_, T.X_BadText⟩ (.cons ⟨_, T.X_BadManner⟩ (.cons ⟨_, T.X_BadClient⟩ (.cons ⟨_, T.X_BadTravel⟩ (.cons ⟨_, T.X_BadReader⟩ (.cons ⟨_, T.X_BadRow⟩ (.cons ⟨_, T.X_Endless⟩ (.cons ⟨_, T.X_TooLarge⟩ (.cons ⟨_, T.X_BadSaved⟩ (.cons ⟨_, T.X_BadStanding⟩ (.cons ⟨_, T.X_BadPaper⟩ (.cons ⟨_, T.X_BadComparer⟩ (.cons ⟨_, T.X_BadChange⟩ (.cons ⟨_, T.X_BadName⟩ (.cons ⟨_, T.X_Busy⟩ (.nil)))))))))))))))))))))
theorem paired_at {α β : Type} {R : α → β → Prop} : ∀ {xs : List α} {ys : List β} {i : Nat} {x : α}, Paired R xs ys → xs[i]? = some x → ∃ y, ys[i]? = some y ∧ R x y
  | _, _, _, _, .nil, h => by simp at h
  | _, _, 0, _, .cons a _, h => by simp at h; subst h; exact ⟨_, rfl, a⟩
  | _, _, i + 1, _, .cons _ t, h => by simp at h; obtain ⟨y, h1, h2⟩ := paired_at t h; exact ⟨y, by simpa using h1, h2⟩
theorem nms_nd : nms.Nodup := by decide +kernel
theorem nms_no : ∀ n ∈ nms, n ≠ "WayError" := by decide +kernel
theorem kit_cs (T : Txt P K mg) {j k : Nat} {C D : Addr} (hj : (Cs T)[j]? = some D) (hk : (Cs T)[k]? = some C) : PySem.W.kitOne K (.ref C) (.ref D) = some (decide (j = k)) := by
  by_cases e : j = k
  · subst e
    rw [hj] at hk
    cases hk
    obtain ⟨n, _, N, X⟩ := paired_at (cs_all T) hj
    rw [X.kitSelf, decide_eq_true rfl]
  · obtain ⟨n, h1, N, X⟩ := paired_at (cs_all T) hj
    obtain ⟨m, h2, M, Y⟩ := paired_at (cs_all T) hk
    rw [decide_eq_false e]
    refine Y.kitOther X T.r_WayError (fun z => ?_) (nms_no _ (List.mem_of_getElem? h1))
    subst z
    exact e ((List.getElem?_inj (List.getElem?_eq_some_iff.mp h1).1 nms_nd).mp (h1.trans h2.symm))
def isL (k : Nat) : List V := (List.range 21).map fun j => .bl (decide (j = k))
def spCls (T : Txt P K mg) : Sp := fun vs H Q _ => ∃ (v : V) (k : Nat) (C : Addr), vs = [v] ∧ (Cs T)[k]? = some C ∧ Err C v H ∧ ∀ p H', H p = none → Ex H H' → H' p = some (.lst (isL k)) → Q (.ref p) H'
theorem ex_of (T : Txt P K mg) {k : Nat} {C : Addr} (hk : (Cs T)[k]? = some C) : ExcC K C := by
  obtain ⟨n, _, N, X⟩ := paired_at (cs_all T) hk
  exact X.ex T.xall
theorem ok_classes (T : Txt P K mg) : FnOk P w K mg base CX0 1 T.f_classes T.d_classes P_classes (spCls T) := by
  refine T.F_classes.ok sc_classes (fun vs H Q E h => ?_) (fun cdv A outer s H vs Q E hr h => ?_)
  · obtain ⟨v, k, C, rfl, _⟩ := h
    rfl
  · obtain ⟨v, k, C, rfl, hk, he, kont⟩ := h
    refine ⟨_, (pss_cons (ps_set (i := 1) sc_classes.nd rfl (Or.inl rfl) (pe_lst (pa_cons (pe_callB Way.call_isX (by rfl) T.b_isinstance (by decide +kernel) (pa_cons (pv 0) (pa_cons (pe_glob (v := .ref T.C_BadField) (by rfl) T.g_BadField rfl) pa_nil))) (pa_cons (pe_callB Way.call_isX (by rfl) T.b_isinstance (by decide +kernel) (pa_cons (pv 0) (pa_cons (pe_glob (v := .ref T.C_BadKind) (by rfl) T.g_BadKind rfl) pa_nil))) (pa_cons (pe_callB Way.call_isX (by rfl) T.b_isinstance (by decide +kernel) (pa_cons (pv 0) (pa_cons (pe_glob (v := .ref T.C_BadHouse) (by rfl) T.g_BadHouse rfl) pa_nil))) pa_nil)))))
      (pss_cons (ps_set (i := 1) sc_classes.nd rfl (Or.inl rfl) (pe_op op_cat (pv 1) (pe_lst (pa_cons (pe_callB Way.call_isX (by rfl) T.b_isinstance (by decide +kernel) (pa_cons (pv 0) (pa_cons (pe_glob (v := .ref T.C_UnknownKind) (by rfl) T.g_UnknownKind rfl) pa_nil))) (pa_cons (pe_callB Way.call_isX (by rfl) T.b_isinstance (by decide +kernel) (pa_cons (pv 0) (pa_cons (pe_glob (v := .ref T.C_UnknownField) (by rfl) T.g_UnknownField rfl) pa_nil))) (pa_cons (pe_callB Way.call_isX (by rfl) T.b_isinstance (by decide +kernel) (pa_cons (pv 0) (pa_cons (pe_glob (v := .ref T.C_BadWeb) (by rfl) T.g_BadWeb rfl) pa_nil))) pa_nil))))))
      (pss_cons (ps_set (i := 1) sc_classes.nd rfl (Or.inl rfl) (pe_op op_cat (pv 1) (pe_lst (pa_cons (pe_callB Way.call_isX (by rfl) T.b_isinstance (by decide +kernel) (pa_cons (pv 0) (pa_cons (pe_glob (v := .ref T.C_BadText) (by rfl) T.g_BadText rfl) pa_nil))) (pa_cons (pe_callB Way.call_isX (by rfl) T.b_isinstance (by decide +kernel) (pa_cons (pv 0) (pa_cons (pe_glob (v := .ref T.C_BadManner) (by rfl) T.g_BadManner rfl) pa_nil))) (pa_cons (pe_callB Way.call_isX (by rfl) T.b_isinstance (by decide +kernel) (pa_cons (pv 0) (pa_cons (pe_glob (v := .ref T.C_BadClient) (by rfl) T.g_BadClient rfl) pa_nil))) pa_nil))))))
      (pss_cons (ps_set (i := 1) sc_classes.nd rfl (Or.inl rfl) (pe_op op_cat (pv 1) (pe_lst (pa_cons (pe_callB Way.call_isX (by rfl) T.b_isinstance (by decide +kernel) (pa_cons (pv 0) (pa_cons (pe_glob (v := .ref T.C_BadTravel) (by rfl) T.g_BadTravel rfl) pa_nil))) (pa_cons (pe_callB Way.call_isX (by rfl) T.b_isinstance (by decide +kernel) (pa_cons (pv 0) (pa_cons (pe_glob (v := .ref T.C_BadReader) (by rfl) T.g_BadReader rfl) pa_nil))) (pa_cons (pe_callB Way.call_isX (by rfl) T.b_isinstance (by decide +kernel) (pa_cons (pv 0) (pa_cons (pe_glob (v := .ref T.C_BadRow) (by rfl) T.g_BadRow rfl) pa_nil))) pa_nil))))))
      (pss_cons (ps_set (i := 1) sc_classes.nd rfl (Or.inl rfl) (pe_op op_cat (pv 1) (pe_lst (pa_cons (pe_callB Way.call_isX (by rfl) T.b_isinstance (by decide +kernel) (pa_cons (pv 0) (pa_cons (pe_glob (v := .ref T.C_Endless) (by rfl) T.g_Endless rfl) pa_nil))) (pa_cons (pe_callB Way.call_isX (by rfl) T.b_isinstance (by decide +kernel) (pa_cons (pv 0) (pa_cons (pe_glob (v := .ref T.C_TooLarge) (by rfl) T.g_TooLarge rfl) pa_nil))) (pa_cons (pe_callB Way.call_isX (by rfl) T.b_isinstance (by decide +kernel) (pa_cons (pv 0) (pa_cons (pe_glob (v := .ref T.C_BadSaved) (by rfl) T.g_BadSaved rfl) pa_nil))) pa_nil))))))
      (pss_cons (ps_set (i := 1) sc_classes.nd rfl (Or.inl rfl) (pe_op op_cat (pv 1) (pe_lst (pa_cons (pe_callB Way.call_isX (by rfl) T.b_isinstance (by decide +kernel) (pa_cons (pv 0) (pa_cons (pe_glob (v := .ref T.C_BadStanding) (by rfl) T.g_BadStanding rfl) pa_nil))) (pa_cons (pe_callB Way.call_isX (by rfl) T.b_isinstance (by decide +kernel) (pa_cons (pv 0) (pa_cons (pe_glob (v := .ref T.C_BadPaper) (by rfl) T.g_BadPaper rfl) pa_nil))) (pa_cons (pe_callB Way.call_isX (by rfl) T.b_isinstance (by decide +kernel) (pa_cons (pv 0) (pa_cons (pe_glob (v := .ref T.C_BadComparer) (by rfl) T.g_BadComparer rfl) pa_nil))) pa_nil))))))
      (pss_one (ps_ret (pe_op op_cat (pv 1) (pe_lst (pa_cons (pe_callB Way.call_isX (by rfl) T.b_isinstance (by decide +kernel) (pa_cons (pv 0) (pa_cons (pe_glob (v := .ref T.C_BadChange) (by rfl) T.g_BadChange rfl) pa_nil))) (pa_cons (pe_callB Way.call_isX (by rfl) T.b_isinstance (by decide +kernel) (pa_cons (pv 0) (pa_cons (pe_glob (v := .ref T.C_BadName) (by rfl) T.g_BadName rfl) pa_nil))) (pa_cons (pe_callB Way.call_isX (by rfl) T.b_isinstance (by decide +kernel) (pa_cons (pv 0) (pa_cons (pe_glob (v := .ref T.C_Busy) (by rfl) T.g_Busy rfl) pa_nil))) pa_nil))))))))))))), ?_⟩
    have isz : ∀ {H1 : Hp} {u : Option V} {D : Addr} (j : Nat), Ex H H1 → (Cs T)[j]? = some D → Ev (tCB (rIsX K) (tCons (tVar 0) (tCons (tC (.ref D)) tNil))) [some v, u] H1 (.bl (decide (j = k))) := fun {H1 u D} j e hj =>
      ev_cb (ea_cons (ev_var rfl) (ea_cons ev_c ea_nil)) (rc_isX (he.mono e) (ex_of T hk) (.own D) (kit_cs T hj hk))
    refine q_asgL (el_lst (ea_cons (isz 0 (Ex.refl H) rfl) (ea_cons (isz 1 (Ex.refl H) rfl) (ea_cons (isz 2 (Ex.refl H) rfl) ea_nil))) (Nat.le_of_ble_eq_true rfl)) fun p1 H1 n1 X1 h1 => ?_
    refine q_asgL (el_catV (ev_var rfl) h1 (el_lst (ea_cons (isz 3 (X1) rfl) (ea_cons (isz 4 (X1) rfl) (ea_cons (isz 5 (X1) rfl) ea_nil))) (Nat.le_of_ble_eq_true rfl)) (Nat.le_of_ble_eq_true rfl)) fun p2 H2 n2 Y2 h2 => ?_
    have X2 := X1.trans Y2
    refine q_asgL (el_catV (ev_var rfl) h2 (el_lst (ea_cons (isz 6 (X2) rfl) (ea_cons (isz 7 (X2) rfl) (ea_cons (isz 8 (X2) rfl) ea_nil))) (Nat.le_of_ble_eq_true rfl)) (Nat.le_of_ble_eq_true rfl)) fun p3 H3 n3 Y3 h3 => ?_
    have X3 := X2.trans Y3
    refine q_asgL (el_catV (ev_var rfl) h3 (el_lst (ea_cons (isz 9 (X3) rfl) (ea_cons (isz 10 (X3) rfl) (ea_cons (isz 11 (X3) rfl) ea_nil))) (Nat.le_of_ble_eq_true rfl)) (Nat.le_of_ble_eq_true rfl)) fun p4 H4 n4 Y4 h4 => ?_
    have X4 := X3.trans Y4
    refine q_asgL (el_catV (ev_var rfl) h4 (el_lst (ea_cons (isz 12 (X4) rfl) (ea_cons (isz 13 (X4) rfl) (ea_cons (isz 14 (X4) rfl) ea_nil))) (Nat.le_of_ble_eq_true rfl)) (Nat.le_of_ble_eq_true rfl)) fun p5 H5 n5 Y5 h5 => ?_
    have X5 := X4.trans Y5
    refine q_asgL (el_catV (ev_var rfl) h5 (el_lst (ea_cons (isz 15 (X5) rfl) (ea_cons (isz 16 (X5) rfl) (ea_cons (isz 17 (X5) rfl) ea_nil))) (Nat.le_of_ble_eq_true rfl)) (Nat.le_of_ble_eq_true rfl)) fun p6 H6 n6 Y6 h6 => ?_
    have X6 := X5.trans Y6
    refine s_retL (el_catV (ev_var rfl) h6 (el_lst (ea_cons (isz 18 (X6) rfl) (ea_cons (isz 19 (X6) rfl) (ea_cons (isz 20 (X6) rfl) ea_nil))) (Nat.le_of_ble_eq_true rfl)) (Nat.le_of_ble_eq_true rfl)) fun p7 H7 n7 Y7 h7 => ?_
    exact kont p7 H7 (fresh_back X6 n7) (X6.trans Y7) h7
end
end K00

namespace K00
open PySem L2 Way Evl
/-! a list of errors, each with what it tells and what is due -/
def Ent (W : V → Prop) (C : Addr) (x : V) (H : Hp) : Prop := ∃ t e a b vs, x = .ref t ∧ H t = some (.tup [e, .ref a, .ref b]) ∧ Err C e H ∧ H a = some (.lst vs) ∧ H b = some (.lst vs) ∧ vs.length ≤ 2 ∧ ∀ y ∈ vs, W y
theorem Ent.mono {W : V → Prop} {C : Addr} {x : V} {H H' : Hp} (e : Ex H H') (h : Ent W C x H) : Ent W C x H' := let ⟨t, r, a, b, vs, h1, h2, h3, h4, h5, h6⟩ := h; ⟨t, r, a, b, vs, h1, e _ _ h2, h3.mono e, e _ _ h4, e _ _ h5, h6⟩
def Ents (W : V → Prop) (cs : List Addr) (xs : List V) (H : Hp) : Prop := Paired (fun x C => Ent W C x H) xs cs
theorem Ents.mono {W : V → Prop} {cs : List Addr} {xs : List V} {H H' : Hp} (e : Ex H H') (h : Ents W cs xs H) : Ents W cs xs H' := Paired.mapP h fun _ _ q => q.mono e
def EntL (W : V → Prop) (cs : List Addr) (v : V) (H : Hp) : Prop := ∃ p xs, v = .ref p ∧ H p = some (.lst xs) ∧ Ents W cs xs H
theorem EntL.mono {W : V → Prop} {cs : List Addr} {v : V} {H H' : Hp} (e : Ex H H') (h : EntL W cs v H) : EntL W cs v H' := let ⟨p, xs, h1, h2, h3⟩ := h; ⟨p, xs, h1, e _ _ h2, h3.mono e⟩
theorem paired_app {α β : Type} {R : α → β → Prop} : ∀ {xs us : List α} {ys vs : List β}, Paired R xs ys → Paired R us vs → Paired R (xs ++ us) (ys ++ vs)
  | _, _, _, _, .nil, t => t
  | _, _, _, _, .cons a r, t => .cons a (paired_app r t)
section
variable {σ : L2.St} {H : Hp} {te tb' : TE} {ta tb tr : TA} {W : V → Prop} {C : Addr} {cs ds : List Addr} {vs : List V}
theorem ent_tup (he : EvX te σ H (Err C)) (ha : EvA ta σ H vs) (hb : EvA tb σ H vs) (hl : vs.length ≤ 2) (hw : ∀ y ∈ vs, W y) : EvX (tTup (tCons te (tCons (tLst ta) (tCons (tLst tb) tNil)))) σ H (Ent W C) := fun H1 e Q q =>
  he H1 e _ fun v H2 e2 p => el_lst ha (by omega) H2 (e.trans e2) _ fun a H3 _ e3 h3 => el_lst hb (by omega) H3 ((e.trans e2).trans e3) _ fun b H4 _ e4 h4 =>
    ⟨sz_of (Nat.le_of_ble_eq_true rfl), fun t ht => q _ _ (((e2.trans e3).trans e4).trans (Ex.new ht)) ⟨t, v, a, b, vs, rfl, upd_same, p.mono ((e3.trans e4).trans (Ex.new ht)), (e4.trans (Ex.new ht)) _ _ h3, Ex.new ht _ _ h4, hl, hw⟩⟩
theorem ents_nil : EvXA tNil σ H (Ents W []) := exa_nil fun _ => .nil
theorem ents_cons (h : EvX te σ H (Ent W C)) (hr : EvXA tr σ H (Ents W cs)) : EvXA (tCons te tr) σ H (Ents W (C :: cs)) := exa_cons h hr (fun _ _ _ e p => p.mono e) fun _ _ _ p r => .cons p r
theorem ents_lst (h : EvXA ta σ H (Ents W cs)) (hl : cs.length ≤ 100) : EvX (tLst ta) σ H (EntL W cs) := ex_lst h (fun _ _ _ e p => p.mono e) fun vs H1 p => by have := Paired.length p; omega
theorem entl_cat (h : EvX te σ H (EntL W cs)) (h2 : EvX tb' σ H (EntL W ds)) (hl : cs.length ≤ 100) (hl2 : ds.length ≤ 100) : EvX (tOp rCat te tb') σ H (EntL W (cs ++ ds)) :=
  (ex_cat h h2 (fun _ _ _ e p => p.mono e) (fun _ _ _ e p => p.mono e) (fun vs H1 p => by have := Paired.length p; omega) (fun vs H1 p => by have := Paired.length p; omega)).to fun v H1 _ ⟨p, zs, e1, e2, xs, ys, e3, r, s⟩ => ⟨p, zs, e1, e2, e3 ▸ paired_app r s⟩
end
def spEnt2 (cs : List Addr) : Sp := fun vs H Q _ => ∃ (v1 v2 : V) (W : V → Prop), vs = [v1, v2] ∧ W v1 ∧ W v2 ∧ ∀ v H', Ex H H' → EntL W cs v H' → Q v H'
def spEnt1 (cs : List Addr) : Sp := fun vs H Q _ => ∃ (v1 : V) (W : V → Prop), vs = [v1] ∧ W v1 ∧ ∀ v H', Ex H H' → EntL W cs v H' → Q v H'
theorem w1 {W : V → Prop} {v : V} (h : W v) : ∀ y ∈ [v], W y := fun y hy => by rw [List.mem_singleton.mp hy]; exact h
theorem w2 {W : V → Prop} {v u : V} (h : W v) (h2 : W u) : ∀ y ∈ [v, u], W y := fun y hy => by
  rcases List.mem_cons.mp hy with rfl | hy
  · exact h
  · rw [List.mem_singleton.mp hy]; exact h2
section
variable {P : Program} {w : World} {K : PySem.W.Frag} {mg : Str → Option Value} {base : Heap}
theorem ok_first (T : Txt P K mg) : FnOk P w K mg base CX0 3 T.f_first T.d_first P_first (spEnt2 [T.C_BadField, T.C_BadKind, T.C_BadHouse, T.C_UnknownKind, T.C_UnknownField, T.C_BadWeb, T.C_BadText]) := by
  have G_BadField_init := ok_BadField_init (P := P) (w := w) (base := base) T
  have G_BadKind_init := ok_BadKind_init (P := P) (w := w) (base := base) T
  have G_BadHouse_init := ok_BadHouse_init (P := P) (w := w) (base := base) T
  have G_UnknownKind_init := ok_UnknownKind_init (P := P) (w := w) (base := base) T
  have G_UnknownField_init := ok_UnknownField_init (P := P) (w := w) (base := base) T
  have G_BadWeb_init := ok_BadWeb_init (P := P) (w := w) (base := base) T
  have G_BadText_init := ok_BadText_init (P := P) (w := w) (base := base) T
  refine T.F_first.ok sc_first (fun vs H Q E h => ?_) (fun cdv A outer s H vs Q E hr h => ?_)
  · obtain ⟨v1, v2, W, rfl, _⟩ := h
    rfl
  · obtain ⟨v1, v2, W, rfl, k0, k1, kont⟩ := h
    refine ⟨_, (pss_cons (ps_set (i := 2) sc_first.nd rfl (Or.inl rfl) (Way.pe_mkX T.X_BadField.oex T.i_BadField T.t_BadField G_BadField_init (hr.mono (by decide)) T.B_BadField_init .nil pass0 (by rfl) T.g_BadField (pa_cons (pv 0) pa_nil)))
      (pss_cons (ps_set (i := 3) sc_first.nd rfl (Or.inl rfl) (Way.pe_mkX T.X_BadKind.oex T.i_BadKind T.t_BadKind G_BadKind_init (hr.mono (by decide)) T.B_BadKind_init .nil pass0 (by rfl) T.g_BadKind (pa_cons (pv 0) pa_nil)))
      (pss_cons (ps_set (i := 4) sc_first.nd rfl (Or.inl rfl) (Way.pe_mkX T.X_BadHouse.oex T.i_BadHouse T.t_BadHouse G_BadHouse_init (hr.mono (by decide)) T.B_BadHouse_init .nil pass0 (by rfl) T.g_BadHouse (pa_cons (pv 0) pa_nil)))
      (pss_cons (ps_set (i := 5) sc_first.nd rfl (Or.inl rfl) (Way.pe_mkX T.X_UnknownKind.oex T.i_UnknownKind T.t_UnknownKind G_UnknownKind_init (hr.mono (by decide)) T.B_UnknownKind_init .nil pass0 (by rfl) T.g_UnknownKind (pa_cons (pv 0) pa_nil)))
      (pss_cons (ps_set (i := 6) sc_first.nd rfl (Or.inl rfl) (Way.pe_mkX T.X_UnknownField.oex T.i_UnknownField T.t_UnknownField G_UnknownField_init (hr.mono (by decide)) T.B_UnknownField_init .nil pass0 (by rfl) T.g_UnknownField (pa_cons (pv 0) (pa_cons (pv 1) pa_nil))))
      (pss_cons (ps_set (i := 7) sc_first.nd rfl (Or.inl rfl) (Way.pe_mkX T.X_BadWeb.oex T.i_BadWeb T.t_BadWeb G_BadWeb_init (hr.mono (by decide)) T.B_BadWeb_init .nil pass0 (by rfl) T.g_BadWeb (pa_cons (pv 0) pa_nil)))
      (pss_cons (ps_set (i := 8) sc_first.nd rfl (Or.inl rfl) (Way.pe_mkX T.X_BadText.oex T.i_BadText T.t_BadText G_BadText_init (hr.mono (by decide)) T.B_BadText_init .nil pass0 (by rfl) T.g_BadText (pa_cons (pv 0) pa_nil)))
      (pss_cons (ps_set (i := 9) sc_first.nd rfl (Or.inl rfl) (pe_lst (pa_cons (pe_tup (pa_cons (pv 2) (pa_cons (pe_lst (pa_cons (Way.pe_xv (pv 2)) pa_nil)) (pa_cons (pe_lst (pa_cons (pv 0) pa_nil)) pa_nil)))) (pa_cons (pe_tup (pa_cons (pv 3) (pa_cons (pe_lst (pa_cons (Way.pe_xv (pv 3)) pa_nil)) (pa_cons (pe_lst (pa_cons (pv 0) pa_nil)) pa_nil)))) (pa_cons (pe_tup (pa_cons (pv 4) (pa_cons (pe_lst (pa_cons (Way.pe_xv (pv 4)) pa_nil)) (pa_cons (pe_lst (pa_cons (pv 0) pa_nil)) pa_nil)))) (pa_cons (pe_tup (pa_cons (pv 5) (pa_cons (pe_lst (pa_cons (Way.pe_xv (pv 5)) pa_nil)) (pa_cons (pe_lst (pa_cons (pv 0) pa_nil)) pa_nil)))) pa_nil))))))
      (pss_one (ps_ret (pe_op op_cat (pv 9) (pe_lst (pa_cons (pe_tup (pa_cons (pv 6) (pa_cons (pe_lst (pa_cons (Way.pe_xv (pv 6)) (pa_cons (Way.pe_xv (pv 6)) pa_nil))) (pa_cons (pe_lst (pa_cons (pv 0) (pa_cons (pv 1) pa_nil))) pa_nil)))) (pa_cons (pe_tup (pa_cons (pv 7) (pa_cons (pe_lst (pa_cons (Way.pe_xv (pv 7)) pa_nil)) (pa_cons (pe_lst (pa_cons (pv 0) pa_nil)) pa_nil)))) (pa_cons (pe_tup (pa_cons (pv 8) (pa_cons (pe_lst (pa_cons (Way.pe_xv (pv 8)) pa_nil)) (pa_cons (pe_lst (pa_cons (pv 0) pa_nil)) pa_nil)))) pa_nil))))))))))))))), ?_⟩
    refine x_asg (ex_mk1 (ea_cons (ev_var rfl) ea_nil)) fun a1 H1 Y1 e1 => ?_
    refine x_asg (ex_mk1 (ea_cons (ev_var rfl) ea_nil)) fun a2 H2 Y2 e2 => ?_
    have e1 := e1.mono Y2
    refine x_asg (ex_mk1 (ea_cons (ev_var rfl) ea_nil)) fun a3 H3 Y3 e3 => ?_
    have e1 := e1.mono Y3
    have e2 := e2.mono Y3
    refine x_asg (ex_mk1 (ea_cons (ev_var rfl) ea_nil)) fun a4 H4 Y4 e4 => ?_
    have e1 := e1.mono Y4
    have e2 := e2.mono Y4
    have e3 := e3.mono Y4
    refine x_asg (ex_mk2 (ea_cons (ev_var rfl) (ea_cons (ev_var rfl) ea_nil))) fun a5 H5 Y5 e5 => ?_
    have e1 := e1.mono Y5
    have e2 := e2.mono Y5
    have e3 := e3.mono Y5
    have e4 := e4.mono Y5
    refine x_asg (ex_mk1 (ea_cons (ev_var rfl) ea_nil)) fun a6 H6 Y6 e6 => ?_
    have e1 := e1.mono Y6
    have e2 := e2.mono Y6
    have e3 := e3.mono Y6
    have e4 := e4.mono Y6
    have e5 := e5.mono Y6
    refine x_asg (ex_mk1 (ea_cons (ev_var rfl) ea_nil)) fun a7 H7 Y7 e7 => ?_
    have e1 := e1.mono Y7
    have e2 := e2.mono Y7
    have e3 := e3.mono Y7
    have e4 := e4.mono Y7
    have e5 := e5.mono Y7
    have e6 := e6.mono Y7
    refine x_asg (ents_lst (ents_cons (ent_tup (EvX.of (ev_var rfl) fun _ x => (e1.mono x).err) (ea_cons (ev_xv (ev_var rfl) e1 T.X_BadField.xf T.na_BadField_name rfl) ea_nil) (ea_cons (ev_var rfl) ea_nil) (Nat.le_of_ble_eq_true rfl) (w1 k0)) (ents_cons (ent_tup (EvX.of (ev_var rfl) fun _ x => (e2.mono x).err) (ea_cons (ev_xv (ev_var rfl) e2 T.X_BadKind.xf T.na_BadKind_name rfl) ea_nil) (ea_cons (ev_var rfl) ea_nil) (Nat.le_of_ble_eq_true rfl) (w1 k0)) (ents_cons (ent_tup (EvX.of (ev_var rfl) fun _ x => (e3.mono x).err) (ea_cons (ev_xv (ev_var rfl) e3 T.X_BadHouse.xf T.na_BadHouse_name rfl) ea_nil) (ea_cons (ev_var rfl) ea_nil) (Nat.le_of_ble_eq_true rfl) (w1 k0)) (ents_cons (ent_tup (EvX.of (ev_var rfl) fun _ x => (e4.mono x).err) (ea_cons (ev_xv (ev_var rfl) e4 T.X_UnknownKind.xf T.na_UnknownKind_name rfl) ea_nil) (ea_cons (ev_var rfl) ea_nil) (Nat.le_of_ble_eq_true rfl) (w1 k0)) ents_nil)))) (Nat.le_of_ble_eq_true rfl)) fun a8 H8 Y8 hf => ?_
    have e1 := e1.mono Y8
    have e2 := e2.mono Y8
    have e3 := e3.mono Y8
    have e4 := e4.mono Y8
    have e5 := e5.mono Y8
    have e6 := e6.mono Y8
    have e7 := e7.mono Y8
    refine x_ret (entl_cat (EvX.of (ev_var rfl) fun _ x => hf.mono x) (ents_lst (ents_cons (ent_tup (EvX.of (ev_var rfl) fun _ x => (e5.mono x).err) (ea_cons (ev_xv (ev_var rfl) e5 T.X_UnknownField.xf T.na_UnknownField_kind rfl) (ea_cons (ev_xv (ev_var rfl) e5 T.X_UnknownField.xf T.na_UnknownField_name rfl) ea_nil)) (ea_cons (ev_var rfl) (ea_cons (ev_var rfl) ea_nil)) (Nat.le_of_ble_eq_true rfl) (w2 k0 k1)) (ents_cons (ent_tup (EvX.of (ev_var rfl) fun _ x => (e6.mono x).err) (ea_cons (ev_xv (ev_var rfl) e6 T.X_BadWeb.xf T.na_BadWeb_thing rfl) ea_nil) (ea_cons (ev_var rfl) ea_nil) (Nat.le_of_ble_eq_true rfl) (w1 k0)) (ents_cons (ent_tup (EvX.of (ev_var rfl) fun _ x => (e7.mono x).err) (ea_cons (ev_xv (ev_var rfl) e7 T.X_BadText.xf T.na_BadText_line rfl) ea_nil) (ea_cons (ev_var rfl) ea_nil) (Nat.le_of_ble_eq_true rfl) (w1 k0)) ents_nil))) (Nat.le_of_ble_eq_true rfl)) (Nat.le_of_ble_eq_true rfl) (Nat.le_of_ble_eq_true rfl)) fun v H' Y hv => ?_
    exact kont v H' ((((((((Y1.trans Y2).trans Y3).trans Y4).trans Y5).trans Y6).trans Y7).trans Y8).trans Y) hv
theorem ok_second (T : Txt P K mg) : FnOk P w K mg base CX0 3 T.f_second T.d_second P_second (spEnt2 [T.C_BadManner, T.C_BadClient, T.C_BadTravel, T.C_BadReader, T.C_BadRow, T.C_Endless, T.C_TooLarge]) := by
  have G_BadManner_init := ok_BadManner_init (P := P) (w := w) (base := base) T
  have G_BadClient_init := ok_BadClient_init (P := P) (w := w) (base := base) T
  have G_BadTravel_init := ok_BadTravel_init (P := P) (w := w) (base := base) T
  have G_BadReader_init := ok_BadReader_init (P := P) (w := w) (base := base) T
  have G_BadRow_init := ok_BadRow_init (P := P) (w := w) (base := base) T
  have G_Endless_init := ok_Endless_init (P := P) (w := w) (base := base) T
  have G_TooLarge_init := ok_TooLarge_init (P := P) (w := w) (base := base) T
  refine T.F_second.ok sc_second (fun vs H Q E h => ?_) (fun cdv A outer s H vs Q E hr h => ?_)
  · obtain ⟨v1, v2, W, rfl, _⟩ := h
    rfl
  · obtain ⟨v1, v2, W, rfl, k0, k1, kont⟩ := h
    refine ⟨_, (pss_cons (ps_set (i := 2) sc_second.nd rfl (Or.inl rfl) (Way.pe_mkX T.X_BadManner.oex T.i_BadManner T.t_BadManner G_BadManner_init (hr.mono (by decide)) T.B_BadManner_init .nil pass0 (by rfl) T.g_BadManner (pa_cons (pv 0) pa_nil)))
      (pss_cons (ps_set (i := 3) sc_second.nd rfl (Or.inl rfl) (Way.pe_mkX T.X_BadClient.oex T.i_BadClient T.t_BadClient G_BadClient_init (hr.mono (by decide)) T.B_BadClient_init .nil pass0 (by rfl) T.g_BadClient (pa_cons (pv 0) pa_nil)))
      (pss_cons (ps_set (i := 4) sc_second.nd rfl (Or.inl rfl) (Way.pe_mkX T.X_BadTravel.oex T.i_BadTravel T.t_BadTravel G_BadTravel_init (hr.mono (by decide)) T.B_BadTravel_init .nil pass0 (by rfl) T.g_BadTravel (pa_cons (pv 0) (pa_cons (pv 1) pa_nil))))
      (pss_cons (ps_set (i := 5) sc_second.nd rfl (Or.inl rfl) (Way.pe_mkX T.X_BadReader.oex T.i_BadReader T.t_BadReader G_BadReader_init (hr.mono (by decide)) T.B_BadReader_init .nil pass0 (by rfl) T.g_BadReader (pa_cons (pv 0) pa_nil)))
      (pss_cons (ps_set (i := 6) sc_second.nd rfl (Or.inl rfl) (Way.pe_mkX T.X_BadRow.oex T.i_BadRow T.t_BadRow G_BadRow_init (hr.mono (by decide)) T.B_BadRow_init .nil pass0 (by rfl) T.g_BadRow (pa_cons (pv 0) pa_nil)))
      (pss_cons (ps_set (i := 7) sc_second.nd rfl (Or.inl rfl) (Way.pe_mkX T.X_Endless.oex T.i_Endless T.t_Endless G_Endless_init (hr.mono (by decide)) T.B_Endless_init .nil pass0 (by rfl) T.g_Endless (pa_cons (pv 0) pa_nil)))
      (pss_cons (ps_set (i := 8) sc_second.nd rfl (Or.inl rfl) (Way.pe_mkX T.X_TooLarge.oex T.i_TooLarge T.t_TooLarge G_TooLarge_init (hr.mono (by decide)) T.B_TooLarge_init .nil pass0 (by rfl) T.g_TooLarge (pa_cons (pv 0) pa_nil)))
      (pss_cons (ps_set (i := 9) sc_second.nd rfl (Or.inl rfl) (pe_lst (pa_cons (pe_tup (pa_cons (pv 2) (pa_cons (pe_lst (pa_cons (Way.pe_xv (pv 2)) pa_nil)) (pa_cons (pe_lst (pa_cons (pv 0) pa_nil)) pa_nil)))) (pa_cons (pe_tup (pa_cons (pv 3) (pa_cons (pe_lst (pa_cons (Way.pe_xv (pv 3)) pa_nil)) (pa_cons (pe_lst (pa_cons (pv 0) pa_nil)) pa_nil)))) (pa_cons (pe_tup (pa_cons (pv 4) (pa_cons (pe_lst (pa_cons (Way.pe_xv (pv 4)) (pa_cons (Way.pe_xv (pv 4)) pa_nil))) (pa_cons (pe_lst (pa_cons (pv 0) (pa_cons (pv 1) pa_nil))) pa_nil)))) pa_nil)))))
      (pss_cons (ps_set (i := 9) sc_second.nd rfl (Or.inl rfl) (pe_op op_cat (pv 9) (pe_lst (pa_cons (pe_tup (pa_cons (pv 5) (pa_cons (pe_lst (pa_cons (Way.pe_xv (pv 5)) pa_nil)) (pa_cons (pe_lst (pa_cons (pv 0) pa_nil)) pa_nil)))) (pa_cons (pe_tup (pa_cons (pv 6) (pa_cons (pe_lst (pa_cons (Way.pe_xv (pv 6)) pa_nil)) (pa_cons (pe_lst (pa_cons (pv 0) pa_nil)) pa_nil)))) pa_nil)))))
      (pss_one (ps_ret (pe_op op_cat (pv 9) (pe_lst (pa_cons (pe_tup (pa_cons (pv 7) (pa_cons (pe_lst (pa_cons (Way.pe_xv (pv 7)) pa_nil)) (pa_cons (pe_lst (pa_cons (pv 0) pa_nil)) pa_nil)))) (pa_cons (pe_tup (pa_cons (pv 8) (pa_cons (pe_lst (pa_cons (Way.pe_xv (pv 8)) pa_nil)) (pa_cons (pe_lst (pa_cons (pv 0) pa_nil)) pa_nil)))) pa_nil))))))))))))))), ?_⟩
    refine x_asg (ex_mk1 (ea_cons (ev_var rfl) ea_nil)) fun a1 H1 Y1 e1 => ?_
    refine x_asg (ex_mk1 (ea_cons (ev_var rfl) ea_nil)) fun a2 H2 Y2 e2 => ?_
    have e1 := e1.mono Y2
    refine x_asg (ex_mk2 (ea_cons (ev_var rfl) (ea_cons (ev_var rfl) ea_nil))) fun a3 H3 Y3 e3 => ?_
    have e1 := e1.mono Y3
    have e2 := e2.mono Y3
    refine x_asg (ex_mk1 (ea_cons (ev_var rfl) ea_nil)) fun a4 H4 Y4 e4 => ?_
    have e1 := e1.mono Y4
    have e2 := e2.mono Y4
    have e3 := e3.mono Y4
    refine x_asg (ex_mk1 (ea_cons (ev_var rfl) ea_nil)) fun a5 H5 Y5 e5 => ?_
    have e1 := e1.mono Y5
    have e2 := e2.mono Y5
    have e3 := e3.mono Y5
    have e4 := e4.mono Y5
    refine x_asg (ex_mk1 (ea_cons (ev_var rfl) ea_nil)) fun a6 H6 Y6 e6 => ?_
    have e1 := e1.mono Y6
    have e2 := e2.mono Y6
    have e3 := e3.mono Y6
    have e4 := e4.mono Y6
    have e5 := e5.mono Y6
    refine x_asg (ex_mk1 (ea_cons (ev_var rfl) ea_nil)) fun a7 H7 Y7 e7 => ?_
    have e1 := e1.mono Y7
    have e2 := e2.mono Y7
    have e3 := e3.mono Y7
    have e4 := e4.mono Y7
    have e5 := e5.mono Y7
    have e6 := e6.mono Y7
    refine x_asg (ents_lst (ents_cons (ent_tup (EvX.of (ev_var rfl) fun _ x => (e1.mono x).err) (ea_cons (ev_xv (ev_var rfl) e1 T.X_BadManner.xf T.na_BadManner_name rfl) ea_nil) (ea_cons (ev_var rfl) ea_nil) (Nat.le_of_ble_eq_true rfl) (w1 k0)) (ents_cons (ent_tup (EvX.of (ev_var rfl) fun _ x => (e2.mono x).err) (ea_cons (ev_xv (ev_var rfl) e2 T.X_BadClient.xf T.na_BadClient_line rfl) ea_nil) (ea_cons (ev_var rfl) ea_nil) (Nat.le_of_ble_eq_true rfl) (w1 k0)) (ents_cons (ent_tup (EvX.of (ev_var rfl) fun _ x => (e3.mono x).err) (ea_cons (ev_xv (ev_var rfl) e3 T.X_BadTravel.xf T.na_BadTravel_kind rfl) (ea_cons (ev_xv (ev_var rfl) e3 T.X_BadTravel.xf T.na_BadTravel_field rfl) ea_nil)) (ea_cons (ev_var rfl) (ea_cons (ev_var rfl) ea_nil)) (Nat.le_of_ble_eq_true rfl) (w2 k0 k1)) ents_nil))) (Nat.le_of_ble_eq_true rfl)) fun a8 H8 Y8 hf => ?_
    have e1 := e1.mono Y8
    have e2 := e2.mono Y8
    have e3 := e3.mono Y8
    have e4 := e4.mono Y8
    have e5 := e5.mono Y8
    have e6 := e6.mono Y8
    have e7 := e7.mono Y8
    refine x_asg (entl_cat (EvX.of (ev_var rfl) fun _ x => hf.mono x) (ents_lst (ents_cons (ent_tup (EvX.of (ev_var rfl) fun _ x => (e4.mono x).err) (ea_cons (ev_xv (ev_var rfl) e4 T.X_BadReader.xf T.na_BadReader_kind rfl) ea_nil) (ea_cons (ev_var rfl) ea_nil) (Nat.le_of_ble_eq_true rfl) (w1 k0)) (ents_cons (ent_tup (EvX.of (ev_var rfl) fun _ x => (e5.mono x).err) (ea_cons (ev_xv (ev_var rfl) e5 T.X_BadRow.xf T.na_BadRow_travel rfl) ea_nil) (ea_cons (ev_var rfl) ea_nil) (Nat.le_of_ble_eq_true rfl) (w1 k0)) ents_nil)) (Nat.le_of_ble_eq_true rfl)) (Nat.le_of_ble_eq_true rfl) (Nat.le_of_ble_eq_true rfl)) fun a9 H9 Y9 hf => ?_
    have e1 := e1.mono Y9
    have e2 := e2.mono Y9
    have e3 := e3.mono Y9
    have e4 := e4.mono Y9
    have e5 := e5.mono Y9
    have e6 := e6.mono Y9
    have e7 := e7.mono Y9
    refine x_ret (entl_cat (EvX.of (ev_var rfl) fun _ x => hf.mono x) (ents_lst (ents_cons (ent_tup (EvX.of (ev_var rfl) fun _ x => (e6.mono x).err) (ea_cons (ev_xv (ev_var rfl) e6 T.X_Endless.xf T.na_Endless_travel rfl) ea_nil) (ea_cons (ev_var rfl) ea_nil) (Nat.le_of_ble_eq_true rfl) (w1 k0)) (ents_cons (ent_tup (EvX.of (ev_var rfl) fun _ x => (e7.mono x).err) (ea_cons (ev_xv (ev_var rfl) e7 T.X_TooLarge.xf T.na_TooLarge_count rfl) ea_nil) (ea_cons (ev_var rfl) ea_nil) (Nat.le_of_ble_eq_true rfl) (w1 k0)) ents_nil)) (Nat.le_of_ble_eq_true rfl)) (Nat.le_of_ble_eq_true rfl) (Nat.le_of_ble_eq_true rfl)) fun v H' Y hv => ?_
    exact kont v H' (((((((((Y1.trans Y2).trans Y3).trans Y4).trans Y5).trans Y6).trans Y7).trans Y8).trans Y9).trans Y) hv
theorem ok_third (T : Txt P K mg) : FnOk P w K mg base CX0 3 T.f_third T.d_third P_third (spEnt1 [T.C_BadSaved, T.C_BadStanding, T.C_BadPaper, T.C_BadComparer, T.C_BadChange, T.C_BadName, T.C_Busy]) := by
  have G_BadSaved_init := ok_BadSaved_init (P := P) (w := w) (base := base) T
  have G_BadComparer_init := ok_BadComparer_init (P := P) (w := w) (base := base) T
  have G_BadChange_init := ok_BadChange_init (P := P) (w := w) (base := base) T
  have G_BadName_init := ok_BadName_init (P := P) (w := w) (base := base) T
  refine T.F_third.ok sc_third (fun vs H Q E h => ?_) (fun cdv A outer s H vs Q E hr h => ?_)
  · obtain ⟨v1, W, rfl, _⟩ := h
    rfl
  · obtain ⟨v1, W, rfl, k0, kont⟩ := h
    refine ⟨_, (pss_cons (ps_set (i := 1) sc_third.nd rfl (Or.inl rfl) (Way.pe_mkX T.X_BadSaved.oex T.i_BadSaved T.t_BadSaved G_BadSaved_init (hr.mono (by decide)) T.B_BadSaved_init .nil pass0 (by rfl) T.g_BadSaved (pa_cons (pv 0) pa_nil)))
      (pss_cons (ps_set (i := 2) sc_third.nd rfl (Or.inl rfl) (Way.pe_mkX T.X_BadComparer.oex T.i_BadComparer T.t_BadComparer G_BadComparer_init (hr.mono (by decide)) T.B_BadComparer_init .nil pass0 (by rfl) T.g_BadComparer (pa_cons (pv 0) pa_nil)))
      (pss_cons (ps_set (i := 3) sc_third.nd rfl (Or.inl rfl) (Way.pe_mkX T.X_BadChange.oex T.i_BadChange T.t_BadChange G_BadChange_init (hr.mono (by decide)) T.B_BadChange_init .nil pass0 (by rfl) T.g_BadChange (pa_cons (pv 0) pa_nil)))
      (pss_cons (ps_set (i := 4) sc_third.nd rfl (Or.inl rfl) (Way.pe_mkX T.X_BadName.oex T.i_BadName T.t_BadName G_BadName_init (hr.mono (by decide)) T.B_BadName_init .nil pass0 (by rfl) T.g_BadName (pa_cons (pv 0) pa_nil)))
      (pss_cons (ps_set (i := 5) sc_third.nd rfl (Or.inl rfl) (pe_lst (pa_cons (pe_tup (pa_cons (pv 1) (pa_cons (pe_lst (pa_cons (Way.pe_xv (pv 1)) pa_nil)) (pa_cons (pe_lst (pa_cons (pv 0) pa_nil)) pa_nil)))) (pa_cons (pe_tup (pa_cons (Way.pe_mkX0 PySem.F.excBase_ValueError T.q_BadStanding T.g_BadStanding T.X_BadStanding.kC (by rfl)) (pa_cons (pe_lst pa_nil) (pa_cons (pe_lst pa_nil) pa_nil)))) (pa_cons (pe_tup (pa_cons (Way.pe_mkX0 PySem.F.excBase_ValueError T.q_BadPaper T.g_BadPaper T.X_BadPaper.kC (by rfl)) (pa_cons (pe_lst pa_nil) (pa_cons (pe_lst pa_nil) pa_nil)))) (pa_cons (pe_tup (pa_cons (pv 2) (pa_cons (pe_lst (pa_cons (Way.pe_xv (pv 2)) pa_nil)) (pa_cons (pe_lst (pa_cons (pv 0) pa_nil)) pa_nil)))) pa_nil))))))
      (pss_one (ps_ret (pe_op op_cat (pv 5) (pe_lst (pa_cons (pe_tup (pa_cons (pv 3) (pa_cons (pe_lst (pa_cons (Way.pe_xv (pv 3)) pa_nil)) (pa_cons (pe_lst (pa_cons (pv 0) pa_nil)) pa_nil)))) (pa_cons (pe_tup (pa_cons (pv 4) (pa_cons (pe_lst (pa_cons (Way.pe_xv (pv 4)) pa_nil)) (pa_cons (pe_lst (pa_cons (pv 0) pa_nil)) pa_nil)))) (pa_cons (pe_tup (pa_cons (Way.pe_mkX0 PySem.F.excBase_ValueError T.q_Busy T.g_Busy T.X_Busy.kC (by rfl)) (pa_cons (pe_lst pa_nil) (pa_cons (pe_lst pa_nil) pa_nil)))) pa_nil)))))))))))), ?_⟩
    refine x_asg (ex_mk1 (ea_cons (ev_var rfl) ea_nil)) fun a1 H1 Y1 e1 => ?_
    refine x_asg (ex_mk1 (ea_cons (ev_var rfl) ea_nil)) fun a2 H2 Y2 e2 => ?_
    have e1 := e1.mono Y2
    refine x_asg (ex_mk1 (ea_cons (ev_var rfl) ea_nil)) fun a3 H3 Y3 e3 => ?_
    have e1 := e1.mono Y3
    have e2 := e2.mono Y3
    refine x_asg (ex_mk1 (ea_cons (ev_var rfl) ea_nil)) fun a4 H4 Y4 e4 => ?_
    have e1 := e1.mono Y4
    have e2 := e2.mono Y4
    have e3 := e3.mono Y4
    refine x_asg (ents_lst (ents_cons (ent_tup (EvX.of (ev_var rfl) fun _ x => (e1.mono x).err) (ea_cons (ev_xv (ev_var rfl) e1 T.X_BadSaved.xf T.na_BadSaved_line rfl) ea_nil) (ea_cons (ev_var rfl) ea_nil) (Nat.le_of_ble_eq_true rfl) (w1 k0)) (ents_cons (ent_tup ex_mk0 ea_nil ea_nil (Nat.le_of_ble_eq_true rfl) (fun y hy => absurd hy List.not_mem_nil)) (ents_cons (ent_tup ex_mk0 ea_nil ea_nil (Nat.le_of_ble_eq_true rfl) (fun y hy => absurd hy List.not_mem_nil)) (ents_cons (ent_tup (EvX.of (ev_var rfl) fun _ x => (e2.mono x).err) (ea_cons (ev_xv (ev_var rfl) e2 T.X_BadComparer.xf T.na_BadComparer_kind rfl) ea_nil) (ea_cons (ev_var rfl) ea_nil) (Nat.le_of_ble_eq_true rfl) (w1 k0)) ents_nil)))) (Nat.le_of_ble_eq_true rfl)) fun a5 H5 Y5 hf => ?_
    have e1 := e1.mono Y5
    have e2 := e2.mono Y5
    have e3 := e3.mono Y5
    have e4 := e4.mono Y5
    refine x_ret (entl_cat (EvX.of (ev_var rfl) fun _ x => hf.mono x) (ents_lst (ents_cons (ent_tup (EvX.of (ev_var rfl) fun _ x => (e3.mono x).err) (ea_cons (ev_xv (ev_var rfl) e3 T.X_BadChange.xf T.na_BadChange_at rfl) ea_nil) (ea_cons (ev_var rfl) ea_nil) (Nat.le_of_ble_eq_true rfl) (w1 k0)) (ents_cons (ent_tup (EvX.of (ev_var rfl) fun _ x => (e4.mono x).err) (ea_cons (ev_xv (ev_var rfl) e4 T.X_BadName.xf T.na_BadName_name rfl) ea_nil) (ea_cons (ev_var rfl) ea_nil) (Nat.le_of_ble_eq_true rfl) (w1 k0)) (ents_cons (ent_tup ex_mk0 ea_nil ea_nil (Nat.le_of_ble_eq_true rfl) (fun y hy => absurd hy List.not_mem_nil)) ents_nil))) (Nat.le_of_ble_eq_true rfl)) (Nat.le_of_ble_eq_true rfl) (Nat.le_of_ble_eq_true rfl)) fun v H' Y hv => ?_
    exact kont v H' (((((Y1.trans Y2).trans Y3).trans Y4).trans Y5).trans Y) hv
end
end K00

namespace K00
open PySem L2 Way Evl
def g1 {α : Type} : List α → List α → List α
  | [a], [x] => [a, x]
  | _, _ => []
def g2 {α : Type} : List α → List α → List α
  | [a], [x, y] => [a, y, x]
  | _, _ => []
theorem g1_rel {vs : List V} {us : List Value} {zs : List V} {ws : List Value} (r : Vals vs us) (z : Vals zs ws) : Vals (g1 vs zs) (g1 us ws) := by
  cases r with
  | nil => exact .nil
  | cons a r => cases r with
    | cons b r => exact .nil
    | nil => cases z with
      | nil => exact .nil
      | cons d z => cases z with
        | nil => exact .cons a (.cons d .nil)
        | cons e z => exact .nil
theorem g2_rel {vs : List V} {us : List Value} {zs : List V} {ws : List Value} (r : Vals vs us) (z : Vals zs ws) : Vals (g2 vs zs) (g2 us ws) := by
  cases r with
  | nil => exact .nil
  | cons a r => cases r with
    | cons b r => exact .nil
    | nil => cases z with
      | nil => exact .nil
      | cons d z => cases z with
        | nil => exact .nil
        | cons e z => cases z with
          | nil => exact .cons a (.cons e (.cons d .nil))
          | cons e z => exact .nil
section
variable {P : Program} {w : World} {K : PySem.W.Frag} {mg : Str → Option Value} {base : Heap}
theorem kb_UnknownField (T : Txt P K mg) : KBn K T.d_UnknownField_init P_UnknownField_init 1 ["name", "kind"] g2 g2 := by
  obtain ⟨oc, kV, doc, pm, ct, od, an, osl, e, lk⟩ := T.S_UnknownField.ex
  rw [e]
  exact ⟨fun s us ws _ l1 l2 => (match us, ws, l1, l2 with | [_], [_, _], _, _ => .of_eq rfl), g2_rel⟩
theorem kb_BadTravel (T : Txt P K mg) : KBn K T.d_BadTravel_init P_BadTravel_init 1 ["field", "kind"] g2 g2 := by
  obtain ⟨oc, kV, doc, pm, ct, od, an, osl, e, lk⟩ := T.S_BadTravel.ex
  rw [e]
  exact ⟨fun s us ws _ l1 l2 => (match us, ws, l1, l2 with | [_], [_, _], _, _ => .of_eq rfl), g2_rel⟩
theorem kb_TooLarge (T : Txt P K mg) : KBn K T.d_TooLarge_init P_TooLarge_init 1 ["count"] g1 g1 := by
  obtain ⟨oc, kV, doc, pm, ct, od, an, osl, e, lk⟩ := T.S_TooLarge.ex
  rw [e]
  exact ⟨fun s us ws _ l1 l2 => (match us, ws, l1, l2 with | [_], [_], _, _ => .of_eq rfl), g1_rel⟩
theorem kb_BadRow (T : Txt P K mg) : KBn K T.d_BadRow_init P_BadRow_init 1 ["travel"] g1 g1 := by
  obtain ⟨oc, kV, doc, pm, ct, od, an, osl, e, lk⟩ := T.S_BadRow.ex
  rw [e]
  exact ⟨fun s us ws _ l1 l2 => (match us, ws, l1, l2 with | [_], [_], _, _ => .of_eq rfl), g1_rel⟩
def spNames : Sp := fun vs H Q _ => ∃ (v1 v2 : V), vs = [v1, v2] ∧ (∃ d, PV H v1 d) ∧ (∃ d, PV H v2 d) ∧ ∀ H', Ex H H' → Q (.bl true) H'
theorem ev_same {σ : L2.St} {H : Hp} {E : XK} {te tb : TE} {xs : List V} {a : Addr} (h : Ev te σ H (.ref a)) (ha : H a = some (.lst xs)) (hb : EvL tb σ H xs) (hx : PVs H xs) (hl : xs.length ≤ 10) : Ev (tCall spSame [] E (tCons te (tCons tb tNil))) σ H (.bl true) := fun H1 e Q q =>
  h H1 e _ fun H2 e2 => hb H2 (e.trans e2) _ fun b H3 _ e3 h3 => ⟨a, b, xs, rfl, e3 _ _ (e2 _ _ (e _ _ ha)), h3, fun v hv => let ⟨d, hd⟩ := hx v hv; ⟨d, hd.mono ((e.trans e2).trans e3)⟩, hl, fun H4 e4 => q H4 ((e2.trans e3).trans e4)⟩
theorem pvs_nil {H : Hp} : PVs H [] := fun x hx => absurd hx List.not_mem_nil
theorem ok_by_names (T : Txt P K mg) : FnG P w K mg base CX0 3 T.f_by_names T.d_by_names P_by_names spNames := by
  have G_same := ok_same (P := P) (w := w) (base := base) T
  have G_UnknownField_init := ok_UnknownField_init (P := P) (w := w) (base := base) T
  have G_BadTravel_init := ok_BadTravel_init (P := P) (w := w) (base := base) T
  have G_TooLarge_init := ok_TooLarge_init (P := P) (w := w) (base := base) T
  have G_BadRow_init := ok_BadRow_init (P := P) (w := w) (base := base) T
  have kb_UnknownField_init_0 := kb_UnknownField T
  have kb_BadTravel_init_0 := kb_BadTravel T
  have kb_TooLarge_init_0 := kb_TooLarge T
  have kb_BadRow_init_0 := kb_BadRow T
  refine okG T.F_by_names sc_by_names (fun vs H Q E h => ?_) (fun cdv A outer s H vs Q E hgd hr h => ?_)
  · obtain ⟨v1, v2, rfl, _⟩ := h
    rfl
  · obtain ⟨v1, v2, rfl, ⟨d1, p1⟩, ⟨d2, p2⟩, kont⟩ := h
    refine ⟨_, (pss_cons (ps_set (i := 2) sc_by_names.nd rfl (Or.inl rfl) (Way.pe_mkXK0 T.X_UnknownField.oex T.i_UnknownField T.t_UnknownField G_UnknownField_init (hr.mono (by decide)) kb_UnknownField_init_0 pass0 (by rfl) T.g_UnknownField (pk_cons (pv 0) (pk_cons (pv 1) pk_nil))))
      (pss_cons (ps_set (i := 3) sc_by_names.nd rfl (Or.inl rfl) (Way.pe_mkXK0 T.X_BadTravel.oex T.i_BadTravel T.t_BadTravel G_BadTravel_init (hr.mono (by decide)) kb_BadTravel_init_0 pass0 (by rfl) T.g_BadTravel (pk_cons (pv 0) (pk_cons (pv 1) pk_nil))))
      (pss_cons (ps_set (i := 4) sc_by_names.nd rfl (Or.inl rfl) (Way.pe_mkXK0 T.X_TooLarge.oex T.i_TooLarge T.t_TooLarge G_TooLarge_init (hr.mono (by decide)) kb_TooLarge_init_0 pass0 (by rfl) T.g_TooLarge (pk_cons (pv 0) pk_nil)))
      (pss_cons (ps_set (i := 5) sc_by_names.nd rfl (Or.inl rfl) (Way.pe_mkXK0 T.X_BadRow.oex T.i_BadRow T.t_BadRow G_BadRow_init (hr.mono (by decide)) kb_BadRow_init_0 pass0 (by rfl) T.g_BadRow (pk_cons (pv 1) pk_nil)))
      (pss_cons (ps_set (i := 6) sc_by_names.nd rfl (Or.inl rfl) (pe_lst (pa_cons (Way.pe_xv (pv 2)) (pa_cons (Way.pe_xv (pv 2)) (pa_cons (Way.pe_xv (pv 3)) (pa_cons (Way.pe_xv (pv 3)) (pa_cons (Way.pe_xv (pv 4)) (pa_cons (Way.pe_xv (pv 5)) pa_nil))))))))
      (pss_one (ps_ret (Way.pe_callG G_same hgd (hr.mono (by decide)) (by rfl) T.g_same T.F_same.kp T.B_same .nil pass0 (pa_cons (pv 6) (pa_cons (pe_lst (pa_cons (pv 1) (pa_cons (pv 0) (pa_cons (pv 1) (pa_cons (pv 0) (pa_cons (pv 0) (pa_cons (pv 1) pa_nil))))))) pa_nil)))))))))), ?_⟩
    refine x_asg (ex_mkK2 (ea_cons (ev_var rfl) (ea_cons (ev_var rfl) ea_nil)) rfl (fun _ => rfl)) fun a1 H1 Y1 e1 => ?_
    refine x_asg (ex_mkK2 (ea_cons (ev_var rfl) (ea_cons (ev_var rfl) ea_nil)) rfl (fun _ => rfl)) fun a2 H2 Y2 e2 => ?_
    have e1 := e1.mono Y2
    refine x_asg (ex_mkK1 (ea_cons (ev_var rfl) ea_nil) rfl (fun _ => rfl)) fun a3 H3 Y3 e3 => ?_
    have e1 := e1.mono Y3
    have e2 := e2.mono Y3
    refine x_asg (ex_mkK1 (ea_cons (ev_var rfl) ea_nil) rfl (fun _ => rfl)) fun a4 H4 Y4 e4 => ?_
    have e1 := e1.mono Y4
    have e2 := e2.mono Y4
    have e3 := e3.mono Y4
    refine q_asgL (el_lst (ea_cons (ev_xv (ev_var rfl) e1 T.X_UnknownField.xf T.na_UnknownField_kind rfl) (ea_cons (ev_xv (ev_var rfl) e1 T.X_UnknownField.xf T.na_UnknownField_name rfl) (ea_cons (ev_xv (ev_var rfl) e2 T.X_BadTravel.xf T.na_BadTravel_kind rfl) (ea_cons (ev_xv (ev_var rfl) e2 T.X_BadTravel.xf T.na_BadTravel_field rfl)
      (ea_cons (ev_xv (ev_var rfl) e3 T.X_TooLarge.xf T.na_TooLarge_count rfl) (ea_cons (ev_xv (ev_var rfl) e4 T.X_BadRow.xf T.na_BadRow_travel rfl) ea_nil)))))) (Nat.le_of_ble_eq_true rfl)) fun p5 H5 n5 Y5 h5 => ?_
    have X := (((Y1.trans Y2).trans Y3).trans Y4).trans Y5
    have p1 := p1.mono X
    have p2 := p2.mono X
    refine s_ret (ev_same (ev_var rfl) h5 (el_lst (ea_cons (ev_var rfl) (ea_cons (ev_var rfl) (ea_cons (ev_var rfl) (ea_cons (ev_var rfl) (ea_cons (ev_var rfl) (ea_cons (ev_var rfl) ea_nil)))))) (Nat.le_of_ble_eq_true rfl)) ?_ (Nat.le_of_ble_eq_true rfl)) fun H6 Y6 => kont H6 (X.trans Y6)
    exact pvs_cons ⟨_, p2⟩ (pvs_cons ⟨_, p1⟩ (pvs_cons ⟨_, p2⟩ (pvs_cons ⟨_, p1⟩ (pvs_cons ⟨_, p1⟩ (pvs_cons ⟨_, p2⟩ pvs_nil)))))
/-! raised and caught -/
theorem mko1 {C : Addr} {f : Str} {ta : TA} {σ : L2.St} {H : Hp} {v : V} {Q : XK} (h : EvA ta σ H [v]) (k : ∀ d H', Ex H H' → H' d = some (.xd [(f, v)]) → Q (.ref C) (some d) H') : tMkO C (spX1 C f) [] ta σ H Q :=
  h H (Ex.refl H) _ fun H1 e1 => ⟨(by decide : 1 ≤ 1000), fun a ha => ⟨a, v, rfl, upd_same, fun dx hd hn => ⟨rfl, dx, _, upd_same, (upd_ne hn).trans upd_same, (by rw [upd_ne hn] at hd; exact hd), by
    have hd' : H1 dx = none := by rw [upd_ne hn] at hd; exact hd
    refine k dx _ (e1.trans fun b o eb => ?_) upd_same
    have ba := ne_of_none eb ha
    have bd := ne_of_none eb hd'
    rw [upd_ne bd, del_ne ba, upd_ne ba, upd_ne bd, upd_ne ba]
    exact eb⟩⟩⟩
theorem mko2 {C : Addr} {f g : Str} {ta : TA} {σ : L2.St} {H : Hp} {v u : V} {Q : XK} (h : EvA ta σ H [v, u]) (k : ∀ d H', Ex H H' → H' d = some (.xd [(g, u), (f, v)]) → Q (.ref C) (some d) H') : tMkO C (spX2 C f g) [] ta σ H Q :=
  h H (Ex.refl H) _ fun H1 e1 => ⟨(by decide : 2 ≤ 1000), fun a ha => ⟨a, v, u, rfl, upd_same, fun dx hd hn => ⟨rfl, dx, _, (upd_ne (Ne.symm hn)).trans upd_same, upd_same, (by rw [upd_ne hn] at hd; exact hd), by
    have hd' : H1 dx = none := by rw [upd_ne hn] at hd; exact hd
    refine k dx _ (e1.trans fun b o eb => ?_) upd_same
    have ba := ne_of_none eb ha
    have bd := ne_of_none eb hd'
    rw [upd_ne bd, del_ne ba, upd_ne bd, upd_ne ba, upd_ne bd, upd_ne ba]
    exact eb⟩⟩⟩
theorem q_mko1 {C : Addr} {f : Str} {ta : TA} {σ : L2.St} {H : Hp} {v : V} {W : Ends → Value → Option Addr → L2.St → Hp → Prop} {tz : TS} {D : Ends} (h : EvA ta σ H [v]) (k : ∀ d H', Ex H H' → H' d = some (.xd [(f, v)]) → W { D with nx := tz D } (.ref C) (some d) σ H') : tSeq (fun D σ H => tMkO C (spX1 C f) [] ta σ H fun cls d H' => W D cls d σ H') tz D σ H := by
  show tMkO C (spX1 C f) [] ta σ H (fun cls d H' => W { D with nx := tz D } cls d σ H')
  exact mko1 h k
theorem q_mko2 {C : Addr} {f g : Str} {ta : TA} {σ : L2.St} {H : Hp} {v u : V} {W : Ends → Value → Option Addr → L2.St → Hp → Prop} {tz : TS} {D : Ends} (h : EvA ta σ H [v, u]) (k : ∀ d H', Ex H H' → H' d = some (.xd [(g, u), (f, v)]) → W { D with nx := tz D } (.ref C) (some d) σ H') : tSeq (fun D σ H => tMkO C (spX2 C f g) [] ta σ H fun cls d H' => W D cls d σ H') tz D σ H := by
  show tMkO C (spX2 C f g) [] ta σ H (fun cls d H' => W { D with nx := tz D } cls d σ H')
  exact mko2 h k
theorem ev_xf {a C d : Addr} {fs : List (Str × V)} {f : Str} {te : TE} {σ : L2.St} {H : Hp} {v : V} (h : Ev te σ H (.ref a)) (hd : H d = some (.xd fs)) (l : fs.lookup f = some v) : Ev (tXf a (.ref C) (some d) C f te) σ H v := fun H1 e Q q =>
  h H1 e _ fun H2 e2 => ⟨rfl, rfl, d, fs, v, rfl, e2 _ _ (e _ _ hd), l, q H2 e2⟩
theorem ok_caught (T : Txt P K mg) : FnG P w K mg base CX0 3 T.f_caught T.d_caught P_caught spNames := by
  have G_same := ok_same (P := P) (w := w) (base := base) T
  have G_UnknownField_init := ok_UnknownField_init (P := P) (w := w) (base := base) T
  have G_Endless_init := ok_Endless_init (P := P) (w := w) (base := base) T
  refine okG T.F_caught sc_caught (fun vs H Q E h => ?_) (fun cdv A outer s H vs Q E hgd hr h => ?_)
  · obtain ⟨v1, v2, rfl, _⟩ := h
    rfl
  · obtain ⟨v1, v2, rfl, ⟨d1, p1⟩, ⟨d2, p2⟩, kont⟩ := h
    refine ⟨_, (pss_cons (ps_set (i := 2) sc_caught.nd rfl (Or.inl rfl) (pe_lst pa_nil))
      (pss_cons (ps_try_as (i := 3) rfl rfl sc_caught.nd rfl rfl ⟨by rfl, by decide, .inl T.g_UnknownField⟩ Way.takes0 (fun W pn xe tk _ => (pss_one (ps_raise rfl tk (pmk_oex T.X_UnknownField.oex T.i_UnknownField T.t_UnknownField G_UnknownField_init (hr.mono (by decide)) T.B_UnknownField_init .nil pass0 (by rfl) T.g_UnknownField (pa_cons (pv 0) (pa_cons (pv 1) pa_nil)))))) (fun a oe cls d pn hz hf => (pss_one (ps_set (i := 2) sc_caught.nd rfl (Or.inl rfl) (pe_lst (pa_cons (pe_xf T.X_UnknownField.xf T.na_UnknownField_kind hz hf (pv 3)) (pa_cons (pe_xf T.X_UnknownField.xf T.na_UnknownField_name hz hf (pv 3)) pa_nil)))))))
      (pss_cons (ps_set (i := 4) sc_caught.nd rfl (Or.inl rfl) pe_int)
      (pss_cons (ps_try_only rfl rfl ⟨by rfl, by decide, .inl T.g_WayError⟩ Way.takes0 (fun W pn xe tk _ => (pss_one (ps_raise rfl tk (Way.pmk_own0 PySem.F.excBase_ValueError T.q_Busy T.g_Busy T.X_Busy.kC (raises_own T.X_Busy.oex.exC T.X_Busy.oex.tyC) (by rfl))))) (fun a oe cls d pn _ _ => (pss_one (ps_set (i := 4) sc_caught.nd rfl (Or.inl rfl) (pe_op op_add (pv 4) pe_int)))))
      (pss_cons (ps_try_only rfl rfl ⟨by rfl, by decide, .inl T.g_WayError⟩ Way.takes0 (fun W pn xe tk _ => (pss_one (ps_raise rfl tk (pmk_oex T.X_Endless.oex T.i_Endless T.t_Endless G_Endless_init (hr.mono (by decide)) T.B_Endless_init .nil pass0 (by rfl) T.g_Endless (pa_cons (pv 0) pa_nil))))) (fun a oe cls d pn _ _ => (pss_one (ps_set (i := 4) sc_caught.nd rfl (Or.inl rfl) (pe_op op_add (pv 4) pe_int)))))
      (pss_one (ps_ret (pe_and (pe_cmpR op_eq (pv 4) pe_int (nomark _)) (pe_one (Way.pe_callG G_same hgd (hr.mono (by decide)) (by rfl) T.g_same T.F_same.kp T.B_same .nil pass0 (pa_cons (pv 2) (pa_cons (pe_lst (pa_cons (pv 0) (pa_cons (pv 1) pa_nil))) pa_nil)))))))))))), ?_⟩
    refine q_asgL (el_lst ea_nil (Nat.le_of_ble_eq_true rfl)) fun p1' H1 n1 Y1 h1 => ?_
    refine q_mko2 (ea_cons (ev_var rfl) (ea_cons (ev_var rfl) ea_nil)) fun dx H2 Y2 hd => ⟨true, T.X_UnknownField.exmSelf, fun _ a ha => ?_, fun q => nomatch q⟩
    refine s_asgL (el_lst (ea_cons (ev_xf (ev_var rfl) hd rfl) (ea_cons (ev_xf (ev_var rfl) hd rfl) ea_nil)) (Nat.le_of_ble_eq_true rfl)) fun p3 H3 n3 Y3 h3 => ?_
    dsimp only
    refine q_asg ev_c fun H4 Y4 => ?_
    refine ⟨true, T.X_Busy.exmRoot T.r_WayError, fun _ a2 ha2 => ?_, fun q => nomatch q⟩
    refine s_asg (v := .int 1) (ev_op (ev_var rfl) ev_c rv_I0) fun H5 Y5 => ?_
    dsimp only
    refine q_mko1 (ea_cons (ev_var rfl) ea_nil) fun dx6 H6 Y6 hd6 => ⟨true, T.X_Endless.exmRoot T.r_WayError, fun _ a3 ha3 => ?_, fun q => nomatch q⟩
    refine s_asg (v := .int 3) (ev_op (ev_var rfl) ev_c rv_I0) fun H7 Y7 => ?_
    dsimp only
    have X := (((((Y1.trans Y2).trans Y3).trans Y4).trans Y5).trans Y6).trans Y7
    have h7 := (((Y4.trans Y5).trans Y6).trans Y7) _ _ h3
    refine s_ret (ev_andV (ev_op (ev_var rfl) ev_c (rv_eq rfl)) fun _ => ev_same (ev_var rfl) h7 (el_lst (ea_cons (ev_var rfl) (ea_cons (ev_var rfl) ea_nil)) (Nat.le_of_ble_eq_true rfl)) ?_ (Nat.le_of_ble_eq_true rfl)) fun H8 Y8 => kont H8 (X.trans Y8)
    exact pvs_cons ⟨_, p1.mono X⟩ (pvs_cons ⟨_, p2.mono X⟩ pvs_nil)
end
end K00

namespace K00
open PySem L2 Way Evl
section
variable {σ : L2.St} {H : Hp} {te : TE} {D : Ends} {tz : TS}
theorem q_any {i : Nat} (h : te σ H fun v H1 => tz D (σ.set i (some v)) H1) : tSeq (tAsg te (gName i)) tz D σ H := h
theorem ex_ent2 {cs : List Addr} {W : V → Prop} {E : XK} {i j : Nat} {v1 v2 : V} (h1 : σ[i]? = some (some v1)) (h2 : σ[j]? = some (some v2)) (w1 : W v1) (w2 : W v2) : EvX (tCall (spEnt2 cs) [] E (tCons (tVar i) (tCons (tVar j) tNil))) σ H (EntL W cs) := fun H1 e Q q => ⟨_, h1, _, h2, v1, v2, W, rfl, w1, w2, fun v H2 e2 h => q v H2 e2 h⟩
theorem ex_ent1 {cs : List Addr} {W : V → Prop} {E : XK} {i : Nat} {v1 : V} (h1 : σ[i]? = some (some v1)) (w1 : W v1) : EvX (tCall (spEnt1 cs) [] E (tCons (tVar i) tNil)) σ H (EntL W cs) := fun H1 e Q q => ⟨_, h1, v1, W, rfl, w1, fun v H2 e2 h => q v H2 e2 h⟩
theorem q_unp3 {K : PySem.W.Frag} {i j l : Nat} {t : Addr} {x y z : V} (h : Ev te σ H (.ref t)) (ht : H t = some (.tup [x, y, z])) (k : ∀ H1, Ex H H1 → tz D (((σ.set i (some x)).set j (some y)).set l (some z)) H1) : tSeq (tAsg te (gTup K 3 (gCons (gName i) (gCons (gName j) (gCons (gName l) gNil))))) tz D σ H :=
  h H (Ex.refl H) _ fun H1 e => ⟨t, _, rfl, SqT.of (e _ _ ht), rfl, ⟨_, _, rfl, _, _, rfl, _, _, rfl, rfl, k H1 e⟩⟩
theorem el_cls {P : Program} {K : PySem.W.Frag} {mg : Str → Option Value} (T : Txt P K mg) {i k : Nat} {v : V} {C : Addr} {E : XK} (h : σ[i]? = some (some v)) (hk : (Cs T)[k]? = some C) (he : Err C v H) : EvL (tCall (spCls T) [] E (tCons (tVar i) tNil)) σ H (isL k) := fun H1 e Q q => ⟨_, h, v, k, C, rfl, hk, he.mono e, fun p H2 hp e2 h2 => q p H2 hp e2 h2⟩
theorem ev_names {E : XK} {i j : Nat} {v1 v2 : V} {d1 d2 : PyData} (h1 : σ[i]? = some (some v1)) (h2 : σ[j]? = some (some v2)) (p1 : PV H v1 d1) (p2 : PV H v2 d2) : Ev (tCall spNames [] E (tCons (tVar i) (tCons (tVar j) tNil))) σ H (.bl true) := fun H1 e Q q => ⟨_, h1, _, h2, v1, v2, rfl, ⟨_, p1.mono e⟩, ⟨_, p2.mono e⟩, fun H2 e2 => q H2 e2⟩
end
def spLaw (K : PySem.W.Frag) : Sp := fun vs H Q _ => ∃ (a : Addr) (ns : List Int), vs = [.ref a] ∧ SqL K H a (ns.map V.int) ∧ ns.length ≤ 63 ∧ ∀ H', Q (.bl true) H'
theorem isL_bl (k : Nat) : isL k = ((List.range 21).map fun j => decide (j = k)).map V.bl := by
  unfold isL
  rw [List.map_map]
  rfl
theorem ed (j i : Nat) : V.bl (decide (V.int (j : Int) = V.int (i : Int))) = V.bl (decide (j = i)) := by
  by_cases h : j = i
  · subst h; simp
  · rw [decide_eq_false h, decide_eq_false fun z => h (by have := V.int.inj z; omega)]
theorem isG (k : Nat) : given (21 : Int).toNat (fun _ => true) (fun j => V.bl (decide (j = k))) = ((List.range 21).map fun j => decide (j = k)).map V.bl := by
  unfold given
  rw [List.map_map, List.filter_eq_self.mpr fun _ _ => rfl]
  rfl
theorem shp_bll (l : List Bool) : Shp 1 (.list (l.map PyData.bool)) := shp_lst fun d hd => by
  obtain ⟨b, _, rfl⟩ := List.mem_map.mp hd
  exact shp_bl
theorem ev_sameV {σ : L2.St} {H : Hp} {E : XK} {i j : Nat} {a b : Addr} {xs : List V} (h1 : σ[i]? = some (some (.ref a))) (h2 : σ[j]? = some (some (.ref b))) (ha : H a = some (.lst xs)) (hb : H b = some (.lst xs)) (hx : PVs H xs) (hl : xs.length ≤ 10) : Ev (tCall spSame [] E (tCons (tVar i) (tCons (tVar j) tNil))) σ H (.bl true) := fun H1 e Q q =>
  ⟨_, h1, _, h2, a, b, xs, rfl, e _ _ ha, e _ _ hb, fun v hv => let ⟨d, hd⟩ := hx v hv; ⟨d, hd.mono e⟩, hl, fun H4 e4 => q H4 e4⟩
section
variable {P : Program} {w : World} {K : PySem.W.Frag} {mg : Str → Option Value} {base : Heap}
set_option maxHeartbeats 16000000 in
theorem ok_law (T : Txt P K mg) : FnG P w K mg base CX0 4 T.f_law T.d_law P_law (spLaw K) := by
  have G_pen := ok_pen (P := P) (w := w) (base := base) T
  have G_plain := ok_plain (P := P) (w := w) (base := base) T
  have G_third := ok_third (P := P) (w := w) (base := base) T
  have G_by_names := ok_by_names (P := P) (w := w) (base := base) T
  have G_caught := ok_caught (P := P) (w := w) (base := base) T
  have G_first := ok_first (P := P) (w := w) (base := base) T
  have G_second := ok_second (P := P) (w := w) (base := base) T
  have G_classes := ok_classes (P := P) (w := w) (base := base) T
  have G_same := ok_same (P := P) (w := w) (base := base) T
  refine okG T.F_law sc_law (fun vs H Q E h => ?_) (fun cdv A outer s H vs Q E hgd hr h => ?_)
  · obtain ⟨a, ns, rfl, _⟩ := h
    rfl
  · obtain ⟨a, ns, rfl, hS, hlen, kont⟩ := h
    refine ⟨_, (pss_cons (ps_set (i := 1) sc_law.nd rfl (Or.inl rfl) (pe_call G_pen (hr.mono (by decide)) (by rfl) T.g_pen T.F_pen.kp T.B_pen .nil pass0 (pa_cons (pv 0) pa_nil)))
      (pss_cons (ps_set (i := 2) sc_law.nd rfl (Or.inl rfl) (pe_call G_plain hr (by rfl) T.g_plain T.F_plain.kp T.B_plain .nil pass0 (pa_cons (pv 1) pa_nil)))
      (pss_cons (ps_set (i := 3) sc_law.nd rfl (Or.inl rfl) (pe_call G_plain hr (by rfl) T.g_plain T.F_plain.kp T.B_plain .nil pass0 (pa_cons (pv 1) pa_nil)))
      (pss_cons (ps_set (i := 4) sc_law.nd rfl (Or.inl rfl) (pe_op op_cat (pe_op op_cat (pe_call G_first hr (by rfl) T.g_first T.F_first.kp T.B_first .nil pass0 (pa_cons (pv 2) (pa_cons (pv 3) pa_nil))) (pe_call G_second hr (by rfl) T.g_second T.F_second.kp T.B_second .nil pass0 (pa_cons (pv 3) (pa_cons (pv 2) pa_nil)))) (pe_call G_third hr (by rfl) T.g_third T.F_third.kp T.B_third .nil pass0 (pa_cons (pv 2) pa_nil))))
      (pss_cons (ps_for PassesOwn.never rfl (pi_range1 (by rfl) T.b_range (pa_cons (pe_callB call_len_seq (by rfl) T.b_len (by decide +kernel) (pa_cons (pv 4) pa_nil)) pa_nil)) (pg_name (i := 5) sc_law.nd rfl (Or.inr rfl)) (pss_cons (ps_asg (pe_ix ix_list (pv 4) (pv 5) (fun _ _ => rfl)) (pg_tup rfl (pgs_cons (pg_name (i := 6) sc_law.nd rfl (Or.inl rfl)) (pgs_cons (pg_name (i := 7) sc_law.nd rfl (Or.inl rfl)) (pgs_cons (pg_name (i := 8) sc_law.nd rfl (Or.inl rfl)) pgs_nil)))))
      (pss_cons (ps_if (pt_cmpR (op_neD hr.units) (pe_call G_classes (hr.mono (by decide)) (by rfl) T.g_classes T.F_classes.kp T.B_classes .nil pass0 (pa_cons (pv 6) pa_nil)) (pe_lc (own := [("_law_j", 9)]) (g := gName 9) (by rfl) sc_law.nd (pi_range1 (by rfl) T.b_range (pa_cons pe_int pa_nil)) (blkOk_by (own := [("_law_j", 9)]) (N := N_law) (sc := defScope s_law) (by decide +kernel)) (fun _ _ _ _ _ => (pg_name (i := 9) sc_law.nd rfl (Or.inl rfl))) (fun _ _ _ _ _ => pts_nil) (fun _ _ _ _ _ => (pe_cmpR op_eq (pv 9) (pv 5) (nomark _)))) (nomark _)) (pss_one (ps_ret pe_bl)) pss_nil)
      (pss_one (ps_if (PW.pt (pw_or (pt_not (pt_val (pe_callB Way.call_isX (by rfl) T.b_isinstance (by decide +kernel) (pa_cons (pv 6) (pa_cons (pe_glob (v := .ref T.C_WayError) (by rfl) T.g_WayError rfl) pa_nil))))) (pw_or (pt_not (pt_val (pe_callB Way.call_isX (by rfl) T.b_isinstance (by decide +kernel) (pa_cons (pv 6) (pa_cons (pe_bltn (v := .ty "ValueError") (by rfl) T.b_ValueError (by decide +kernel) rfl) pa_nil))))) (pw_or1 (pt_not (pt_val (Way.pe_callG G_same hgd (hr.mono (by decide)) (by rfl) T.g_same T.F_same.kp T.B_same .nil pass0 (pa_cons (pv 7) (pa_cons (pv 8) pa_nil))))))))) (pss_one (ps_ret pe_bl)) pss_nil)))))
      (pss_one (ps_ret (pe_and (Way.pe_callG G_by_names hgd hr (by rfl) T.g_by_names T.F_by_names.kp T.B_by_names .nil pass0 (pa_cons (pv 2) (pa_cons (pv 3) pa_nil))) (pe_one (Way.pe_callG G_caught hgd hr (by rfl) T.g_caught T.F_caught.kp T.B_caught .nil pass0 (pa_cons (pv 2) (pa_cons (pv 3) pa_nil)))))))))))), ?_⟩
    refine q_any ⟨_, rfl, a, ns, rfl, hS, hlen, fun H1 p c X1 hp0 hc0 P1 => ?_⟩
    refine q_any ⟨_, rfl, p, c, 0, rfl, P1, by decide, fun H2 v1 d1 K2 P2 pv1 => ?_⟩
    refine q_any ⟨_, rfl, p, c, 3, rfl, P2, by decide, fun H3 v2 d2 K3 P3 pv2 => ?_⟩
    obtain ⟨kvs, hp2⟩ := P2.here
    have pv1 := pv1.kp hp2 K3
    refine x_asg (entl_cat (W := fun y => y = v1 ∨ y = v2) (entl_cat (ex_ent2 rfl rfl (.inl rfl) (.inr rfl)) (ex_ent2 rfl rfl (.inr rfl) (.inl rfl)) (Nat.le_of_ble_eq_true rfl) (Nat.le_of_ble_eq_true rfl)) (ex_ent1 rfl (.inl rfl)) (Nat.le_of_ble_eq_true rfl) (Nat.le_of_ble_eq_true rfl)) fun mv H4 Y4 hm => ?_
    obtain ⟨m, xs, rfl, hm, hx⟩ := hm
    have hx : Ents (fun y => y = v1 ∨ y = v2) (Cs T) xs H4 := hx
    have hxl : xs.length = 21 := Paired.length hx
    have pv1 := pv1.mono Y4
    have pv2 := pv2.mono Y4
    refine q_forR1 (n := (xs.length : Int)) (ea_cons (ev_cb (ea_cons (ev_var rfl) ea_nil) (rc_lenL (sq_of hm))) ea_nil) (by omega) (fun i σ H' => ∃ u5 u6 u7 u8, σ = [some (.ref a), some (.ref p), some v1, some v2, some (.ref m), u5, u6, u7, u8, none] ∧ Ex H4 H') (fun H5 X5 => ⟨none, none, none, none, rfl, X5⟩) ?_ ?_
    · rintro i σ' H' hi ⟨u5, u6, u7, u8, rfl, X⟩
      have hi' : i < xs.length := by omega
      obtain ⟨C, hC, t, e, ta, tb, vs, h1, h2, h3, h4, h5, h6, h7⟩ := paired_at (hx.mono X) (List.getElem?_eq_getElem hi')
      have hm' := X _ _ hm
      refine q_unp3 (t := t) (ev_op (ev_var rfl) (ev_var rfl) (rv_ixL (sq_of hm') (at_of (j := i) rfl (by rw [List.getElem?_eq_getElem hi', h1])))) h2 fun H6 X6 => ?_
      have e6 := h3.mono X6
      refine q_when (b := false) (et_is (et_test (ev_opLL (el_cls T rfl hC e6) (el_lcR1 (fun _ => true) (fun j => .bl (decide (j = i))) (ea_cons ev_c ea_nil) (by decide) (fun _ => rfl) (fun j H7 X7 hj => fun H8 X8 Q' q => q H8 (Ex.refl H8)) (fun j H7 X7 hj _ => ev_is (ev_op (ev_var rfl) (ev_var rfl) (rv_eq rfl)) (ed j i))) fun q1 q2 H7 g1 g2 X7 => rv_neD (fun H8 X8 => .lst (sq_of (X8 _ _ (isL_bl i ▸ g1))) (dp_bls _)) (fun H8 X8 => .lst (sq_of (X8 _ _ (isG i ▸ g2))) (dp_bls _)) (shp_bll _).ok (shp_bll _).ok)) (by rw [(shp_bll _).same]; rfl)) (fun q => nomatch q) fun _ H7 X7 => ?_
      have e7 := e6.mono X7
      have h4' := X7 _ _ (X6 _ _ h4)
      have h5' := X7 _ _ (X6 _ _ h5)
      obtain ⟨nm, hnm, N, XC⟩ := paired_at (cs_all T) hC
      have XX := (X.trans X6).trans X7
      refine s_when (b := false) (et_is (et_or (et_not (et_B (ev_cb (ea_cons (ev_var rfl) (ea_cons ev_c ea_nil)) (rc_isX e7 (ex_of T hC) (.own _) (XC.kitRoot T.r_WayError))))) fun _ => et_or (et_not (et_B (ev_cb (ea_cons (ev_var rfl) (ea_cons ev_c ea_nil)) (rc_isX e7 (ex_of T hC) (.ty _) XC.kitVE)))) fun _ => et_not (et_B (ev_sameV rfl rfl h4' h5' (fun y hy => ?_) (by omega)))) rfl) (fun q => nomatch q) fun _ H8 X8 => ?_
      · rcases h7 y hy with rfl | rfl
        · exact ⟨_, pv1.mono XX⟩
        · exact ⟨_, pv2.mono XX⟩
      · exact ⟨_, _, _, _, rfl, XX.trans X8⟩
    · rintro σ' H' ⟨u5, u6, u7, u8, rfl, X⟩
      refine s_ret (v := .bl true) (ev_andV (ev_names rfl rfl (pv1.mono X) (pv2.mono X)) fun _ => ev_names rfl rfl (pv1.mono X) (pv2.mono X)) fun H6 X6 => kont _
end
end K00

namespace K00
open PySem L2
theorem all_mk {l : PySem.W.OpenLaw} {w : World} {K : PySem.W.Frag} {h : Heap} {mg : Str → Option Value} {fa f0 f1 f2 f3 f4 f5 f6 f7 f8 f9 f10 f11 f12 f13 f14 f15 f16 f17 f18 f19 f20 f21 f22 f23 f24 f25 f26 f27 f28 f29 cda0 cc0 cda1 cc1 cda2 cc2 cda3 cc3 cda4 cc4 cda5 cc5 cda6 cc6 cda7 cc7 cda8 cc8 cda9 cc9 cda10 cc10 cda11 cc11 cda12 cc12 cda13 cc13 cda14 cc14 cda15 cc15 cda16 cc16 cda17 cc17 C0 N0 C1 N1 C2 N2 C3 N3 C4 N4 C5 N5 C6 N6 C7 N7 C8 N8 C9 N9 C10 N10 C11 N11 C12 N12 C13 N13 C14 N14 C15 N15 C16 N16 C17 N17 C18 N18 C19 N19 C20 N20 C21 N21 : Addr} (X : K.In h) (G : h.Ns mainGlobals mg) (hfa : mg "law" = some (.ref fa))
    {od0 an0 od1 an1 od2 an2 od3 an3 od4 an4 od5 an5 od6 an6 od7 an7 od8 an8 od9 an9 od10 an10 od11 an11 od12 an12 od13 an13 od14 an14 od15 an15 od16 an16 od17 an17 od18 an18 od19 an19 od20 an20 od21 an21 od22 an22 od23 an23 od24 an24 od25 an25 od26 an26 od27 an27 od28 an28 od29 an29 cdd0 cld0 cdd1 cld1 cdd2 cld2 cdd3 cld3 cdd4 cld4 cdd5 cld5 cdd6 cld6 cdd7 cld7 cdd8 cld8 cdd9 cld9 cdd10 cld10 cdd11 cld11 cdd12 cld12 cdd13 cld13 cdd14 cld14 cdd15 cld15 cdd16 cld16 cdd17 cld17 : Option Addr} {sl0 sl1 sl2 sl3 sl4 sl5 sl6 sl7 sl8 sl9 sl10 sl11 sl12 sl13 sl14 sl15 sl16 sl17 sl18 sl19 sl20 sl21 sl22 sl23 sl24 sl25 sl26 sl27 sl28 sl29 ccs0 csl0 ccs1 csl1 ccs2 csl2 ccs3 csl3 ccs4 csl4 ccs5 csl5 ccs6 csl6 ccs7 csl7 ccs8 csl8 ccs9 csl9 ccs10 csl10 ccs11 csl11 ccs12 csl12 ccs13 csl13 ccs14 csl14 ccs15 csl15 ccs16 csl16 ccs17 csl17 : Array (Option Value)} {oc0 kV0 dc0 pm0 ct0 ccl0 cl0 oc1 kV1 dc1 pm1 ct1 ccl1 cl1 oc2 kV2 dc2 pm2 ct2 ccl2 cl2 oc3 kV3 dc3 pm3 ct3 ccl3 cl3 oc4 kV4 dc4 pm4 ct4 ccl4 cl4 oc5 kV5 dc5 pm5 ct5 ccl5 cl5 oc6 kV6 dc6 pm6 ct6 ccl6 cl6 oc7 kV7 dc7 pm7 ct7 ccl7 cl7 oc8 kV8 dc8 pm8 ct8 ccl8 cl8 oc9 kV9 dc9 pm9 ct9 ccl9 cl9 oc10 kV10 dc10 pm10 ct10 ccl10 cl10 oc11 kV11 dc11 pm11 ct11 ccl11 cl11 oc12 kV12 dc12 pm12 ct12 ccl12 cl12 oc13 kV13 dc13 pm13 ct13 ccl13 cl13 oc14 kV14 dc14 pm14 ct14 ccl14 cl14 oc15 kV15 dc15 pm15 ct15 ccl15 cl15 oc16 kV16 dc16 pm16 ct16 ccl16 cl16 oc17 kV17 dc17 pm17 ct17 ccl17 cl17 oc18 kV18 dc18 pm18 cd18 ct18 oc19 kV19 dc19 pm19 cd19 ct19 oc20 kV20 dc20 pm20 cd20 ct20 oc21 kV21 dc21 pm21 cd21 ct21 oc22 kV22 dc22 pm22 cd22 ct22 oc23 kV23 dc23 pm23 cd23 ct23 oc24 kV24 dc24 pm24 cd24 ct24 oc25 kV25 dc25 pm25 cd25 ct25 oc26 kV26 dc26 pm26 cd26 ct26 oc27 kV27 dc27 pm27 cd27 ct27 oc28 kV28 dc28 pm28 cd28 ct28 oc29 kV29 dc29 pm29 cd29 ct29 : Value}
    {vs0 vs1 vs2 vs3 vs4 vs5 vs6 vs7 vs8 vs9 vs10 vs11 vs12 vs13 vs14 vs15 vs16 vs17 : Array Value} {fl0 fl1 fl2 fl3 fl4 fl5 fl6 fl7 fl8 fl9 fl10 fl11 fl12 fl13 fl14 fl15 fl16 fl17 : Str} {tf0 tf1 tf2 tf3 tf4 tf5 tf6 tf7 tf8 tf9 tf10 tf11 tf12 tf13 tf14 tf15 tf16 tf17 : Tok}
    {q0 : Str} {bs0 sub0 : List Value} {sn0 : List Str} {ab0 : Bool} {col0 : Option Bool} {dd0 : Option Addr} {m00 m10 m20 m30 m50 : Option Value}
    {q1 : Str} {bs1 sub1 : List Value} {sn1 : List Str} {ab1 : Bool} {col1 : Option Bool} {dd1 : Option Addr} {m01 m11 m21 m31 m51 : Option Value}
    {q2 : Str} {bs2 sub2 : List Value} {sn2 : List Str} {ab2 : Bool} {col2 : Option Bool} {dd2 : Option Addr} {m02 m12 m22 m32 m52 : Option Value}
    {q3 : Str} {bs3 sub3 : List Value} {sn3 : List Str} {ab3 : Bool} {col3 : Option Bool} {dd3 : Option Addr} {m03 m13 m23 m33 m53 : Option Value}
    {q4 : Str} {bs4 sub4 : List Value} {sn4 : List Str} {ab4 : Bool} {col4 : Option Bool} {dd4 : Option Addr} {m04 m14 m24 m34 m54 : Option Value}
    {q5 : Str} {bs5 sub5 : List Value} {sn5 : List Str} {ab5 : Bool} {col5 : Option Bool} {dd5 : Option Addr} {m05 m15 m25 m35 m55 : Option Value}
    {q6 : Str} {bs6 sub6 : List Value} {sn6 : List Str} {ab6 : Bool} {col6 : Option Bool} {dd6 : Option Addr} {m06 m16 m26 m36 m56 : Option Value}
    {q7 : Str} {bs7 sub7 : List Value} {sn7 : List Str} {ab7 : Bool} {col7 : Option Bool} {dd7 : Option Addr} {m07 m17 m27 m37 m57 : Option Value}
    {q8 : Str} {bs8 sub8 : List Value} {sn8 : List Str} {ab8 : Bool} {col8 : Option Bool} {dd8 : Option Addr} {m08 m18 m28 m38 m58 : Option Value}
    {q9 : Str} {bs9 sub9 : List Value} {sn9 : List Str} {ab9 : Bool} {col9 : Option Bool} {dd9 : Option Addr} {m09 m19 m29 m39 m59 : Option Value}
    {q10 : Str} {bs10 sub10 : List Value} {sn10 : List Str} {ab10 : Bool} {col10 : Option Bool} {dd10 : Option Addr} {m010 m110 m210 m310 m510 : Option Value}
    {q11 : Str} {bs11 sub11 : List Value} {sn11 : List Str} {ab11 : Bool} {col11 : Option Bool} {dd11 : Option Addr} {m011 m111 m211 m311 m511 : Option Value}
    {q12 : Str} {bs12 sub12 : List Value} {sn12 : List Str} {ab12 : Bool} {col12 : Option Bool} {dd12 : Option Addr} {m012 m112 m212 m312 m512 : Option Value}
    {q13 : Str} {bs13 sub13 : List Value} {sn13 : List Str} {ab13 : Bool} {col13 : Option Bool} {dd13 : Option Addr} {m013 m113 m213 m313 m513 : Option Value}
    {q14 : Str} {bs14 sub14 : List Value} {sn14 : List Str} {ab14 : Bool} {col14 : Option Bool} {dd14 : Option Addr} {m014 m114 m214 m314 m514 : Option Value}
    {q15 : Str} {bs15 sub15 : List Value} {sn15 : List Str} {ab15 : Bool} {col15 : Option Bool} {dd15 : Option Addr} {m015 m115 m215 m315 m515 : Option Value}
    {q16 : Str} {bs16 sub16 : List Value} {sn16 : List Str} {ab16 : Bool} {col16 : Option Bool} {dd16 : Option Addr} {m016 m116 m216 m316 m516 : Option Value}
    {q17 : Str} {bs17 sub17 : List Value} {sn17 : List Str} {ab17 : Bool} {col17 : Option Bool} {dd17 : Option Addr} {m017 m117 m217 m317 m517 : Option Value}
    {q18 : Str} {bs18 sub18 : List Value} {sn18 : List Str} {ab18 : Bool} {col18 : Option Bool} {dd18 : Option Addr} {m018 m118 m218 m318 m518 : Option Value}
    {q19 : Str} {bs19 sub19 : List Value} {sn19 : List Str} {ab19 : Bool} {col19 : Option Bool} {dd19 : Option Addr} {m019 m119 m219 m319 m519 : Option Value}
    {q20 : Str} {bs20 sub20 : List Value} {sn20 : List Str} {ab20 : Bool} {col20 : Option Bool} {dd20 : Option Addr} {m020 m120 m220 m320 m520 : Option Value}
    {q21 : Str} {bs21 sub21 : List Value} {sn21 : List Str} {ab21 : Bool} {col21 : Option Bool} {dd21 : Option Addr} {m021 m121 m221 m321 m521 : Option Value}
    (gc0 : PySem.W.nsIn K mainGlobals "WayError" = some (some (.ref C0)))
    (xl0 : K.lookup C0 = some (excClassObj "WayError" q0 C0 N0 bs0 [.type "ValueError", .type "Exception", .type "BaseException", .type "object"] true sn0 sub0 ab0 col0 dd0 m00 m10 m20 m30 m50 "ValueError.__new__"))
    (ini : PySem.W.nsIn K N0 "__init__" = some none)
    (xhn : PySem.W.specialIn K (.builtin "object.__class__") "__get__" = some (some (.builtin "getset_descriptor.__get__")))
    (xht : PySem.W.takesIn K (.builtin "object.__class__") = some true)
    (xop : PySem.W.nsIn K cStatics "thirdparty.any" = some none)
    (top : (l.prog.main.scope.names.lookup ("super" : Str)).isSome = false)
    (gc1 : PySem.W.nsIn K mainGlobals "BadField" = some (some (.ref C1)))
    (xl1 : K.lookup C1 = some (excClassObj "BadField" q1 C1 N1 bs1 [.ref C0, .type "ValueError", .type "Exception", .type "BaseException", .type "object"] true sn1 sub1 ab1 col1 dd1 m01 m11 m21 m31 m51 "ValueError.__new__"))
    (sa1 : PySem.W.findIn K (.ref C1) "__setattr__" = some (some (.builtin "object.__setattr__")))
    (ga1 : PySem.W.findIn K (.ref C1) "__getattribute__" = some (some (.builtin "BaseException.__getattribute__")))
    (gg1 : PySem.W.findIn K (.ref C1) "__getattr__" = some none)
    (ha1 : PySem.W.findIn K (.ref C1) "__class__" = some (some (.builtin "object.__class__")))
    (kc1 : PySem.W.keepIn K (.ref C1) = true)
    (na1_0 : PySem.W.findIn K (.ref C1) "name" = some none)
    (gc2 : PySem.W.nsIn K mainGlobals "BadKind" = some (some (.ref C2)))
    (xl2 : K.lookup C2 = some (excClassObj "BadKind" q2 C2 N2 bs2 [.ref C0, .type "ValueError", .type "Exception", .type "BaseException", .type "object"] true sn2 sub2 ab2 col2 dd2 m02 m12 m22 m32 m52 "ValueError.__new__"))
    (sa2 : PySem.W.findIn K (.ref C2) "__setattr__" = some (some (.builtin "object.__setattr__")))
    (ga2 : PySem.W.findIn K (.ref C2) "__getattribute__" = some (some (.builtin "BaseException.__getattribute__")))
    (gg2 : PySem.W.findIn K (.ref C2) "__getattr__" = some none)
    (ha2 : PySem.W.findIn K (.ref C2) "__class__" = some (some (.builtin "object.__class__")))
    (kc2 : PySem.W.keepIn K (.ref C2) = true)
    (na2_0 : PySem.W.findIn K (.ref C2) "name" = some none)
    (gc3 : PySem.W.nsIn K mainGlobals "BadHouse" = some (some (.ref C3)))
    (xl3 : K.lookup C3 = some (excClassObj "BadHouse" q3 C3 N3 bs3 [.ref C0, .type "ValueError", .type "Exception", .type "BaseException", .type "object"] true sn3 sub3 ab3 col3 dd3 m03 m13 m23 m33 m53 "ValueError.__new__"))
    (sa3 : PySem.W.findIn K (.ref C3) "__setattr__" = some (some (.builtin "object.__setattr__")))
    (ga3 : PySem.W.findIn K (.ref C3) "__getattribute__" = some (some (.builtin "BaseException.__getattribute__")))
    (gg3 : PySem.W.findIn K (.ref C3) "__getattr__" = some none)
    (ha3 : PySem.W.findIn K (.ref C3) "__class__" = some (some (.builtin "object.__class__")))
    (kc3 : PySem.W.keepIn K (.ref C3) = true)
    (na3_0 : PySem.W.findIn K (.ref C3) "name" = some none)
    (gc4 : PySem.W.nsIn K mainGlobals "UnknownKind" = some (some (.ref C4)))
    (xl4 : K.lookup C4 = some (excClassObj "UnknownKind" q4 C4 N4 bs4 [.ref C0, .type "ValueError", .type "Exception", .type "BaseException", .type "object"] true sn4 sub4 ab4 col4 dd4 m04 m14 m24 m34 m54 "ValueError.__new__"))
    (sa4 : PySem.W.findIn K (.ref C4) "__setattr__" = some (some (.builtin "object.__setattr__")))
    (ga4 : PySem.W.findIn K (.ref C4) "__getattribute__" = some (some (.builtin "BaseException.__getattribute__")))
    (gg4 : PySem.W.findIn K (.ref C4) "__getattr__" = some none)
    (ha4 : PySem.W.findIn K (.ref C4) "__class__" = some (some (.builtin "object.__class__")))
    (kc4 : PySem.W.keepIn K (.ref C4) = true)
    (na4_0 : PySem.W.findIn K (.ref C4) "name" = some none)
    (gc5 : PySem.W.nsIn K mainGlobals "UnknownField" = some (some (.ref C5)))
    (xl5 : K.lookup C5 = some (excClassObj "UnknownField" q5 C5 N5 bs5 [.ref C0, .type "ValueError", .type "Exception", .type "BaseException", .type "object"] true sn5 sub5 ab5 col5 dd5 m05 m15 m25 m35 m55 "ValueError.__new__"))
    (sa5 : PySem.W.findIn K (.ref C5) "__setattr__" = some (some (.builtin "object.__setattr__")))
    (ga5 : PySem.W.findIn K (.ref C5) "__getattribute__" = some (some (.builtin "BaseException.__getattribute__")))
    (gg5 : PySem.W.findIn K (.ref C5) "__getattr__" = some none)
    (ha5 : PySem.W.findIn K (.ref C5) "__class__" = some (some (.builtin "object.__class__")))
    (kc5 : PySem.W.keepIn K (.ref C5) = true)
    (na5_0 : PySem.W.findIn K (.ref C5) "kind" = some none)
    (na5_1 : PySem.W.findIn K (.ref C5) "name" = some none)
    (gc6 : PySem.W.nsIn K mainGlobals "BadWeb" = some (some (.ref C6)))
    (xl6 : K.lookup C6 = some (excClassObj "BadWeb" q6 C6 N6 bs6 [.ref C0, .type "ValueError", .type "Exception", .type "BaseException", .type "object"] true sn6 sub6 ab6 col6 dd6 m06 m16 m26 m36 m56 "ValueError.__new__"))
    (sa6 : PySem.W.findIn K (.ref C6) "__setattr__" = some (some (.builtin "object.__setattr__")))
    (ga6 : PySem.W.findIn K (.ref C6) "__getattribute__" = some (some (.builtin "BaseException.__getattribute__")))
    (gg6 : PySem.W.findIn K (.ref C6) "__getattr__" = some none)
    (ha6 : PySem.W.findIn K (.ref C6) "__class__" = some (some (.builtin "object.__class__")))
    (kc6 : PySem.W.keepIn K (.ref C6) = true)
    (na6_0 : PySem.W.findIn K (.ref C6) "thing" = some none)
    (gc7 : PySem.W.nsIn K mainGlobals "BadText" = some (some (.ref C7)))
    (xl7 : K.lookup C7 = some (excClassObj "BadText" q7 C7 N7 bs7 [.ref C0, .type "ValueError", .type "Exception", .type "BaseException", .type "object"] true sn7 sub7 ab7 col7 dd7 m07 m17 m27 m37 m57 "ValueError.__new__"))
    (sa7 : PySem.W.findIn K (.ref C7) "__setattr__" = some (some (.builtin "object.__setattr__")))
    (ga7 : PySem.W.findIn K (.ref C7) "__getattribute__" = some (some (.builtin "BaseException.__getattribute__")))
    (gg7 : PySem.W.findIn K (.ref C7) "__getattr__" = some none)
    (ha7 : PySem.W.findIn K (.ref C7) "__class__" = some (some (.builtin "object.__class__")))
    (kc7 : PySem.W.keepIn K (.ref C7) = true)
    (na7_0 : PySem.W.findIn K (.ref C7) "line" = some none)
    (gc8 : PySem.W.nsIn K mainGlobals "BadManner" = some (some (.ref C8)))
    (xl8 : K.lookup C8 = some (excClassObj "BadManner" q8 C8 N8 bs8 [.ref C0, .type "ValueError", .type "Exception", .type "BaseException", .type "object"] true sn8 sub8 ab8 col8 dd8 m08 m18 m28 m38 m58 "ValueError.__new__"))
    (sa8 : PySem.W.findIn K (.ref C8) "__setattr__" = some (some (.builtin "object.__setattr__")))
    (ga8 : PySem.W.findIn K (.ref C8) "__getattribute__" = some (some (.builtin "BaseException.__getattribute__")))
    (gg8 : PySem.W.findIn K (.ref C8) "__getattr__" = some none)
    (ha8 : PySem.W.findIn K (.ref C8) "__class__" = some (some (.builtin "object.__class__")))
    (kc8 : PySem.W.keepIn K (.ref C8) = true)
    (na8_0 : PySem.W.findIn K (.ref C8) "name" = some none)
    (gc9 : PySem.W.nsIn K mainGlobals "BadClient" = some (some (.ref C9)))
    (xl9 : K.lookup C9 = some (excClassObj "BadClient" q9 C9 N9 bs9 [.ref C0, .type "ValueError", .type "Exception", .type "BaseException", .type "object"] true sn9 sub9 ab9 col9 dd9 m09 m19 m29 m39 m59 "ValueError.__new__"))
    (sa9 : PySem.W.findIn K (.ref C9) "__setattr__" = some (some (.builtin "object.__setattr__")))
    (ga9 : PySem.W.findIn K (.ref C9) "__getattribute__" = some (some (.builtin "BaseException.__getattribute__")))
    (gg9 : PySem.W.findIn K (.ref C9) "__getattr__" = some none)
    (ha9 : PySem.W.findIn K (.ref C9) "__class__" = some (some (.builtin "object.__class__")))
    (kc9 : PySem.W.keepIn K (.ref C9) = true)
    (na9_0 : PySem.W.findIn K (.ref C9) "line" = some none)
    (gc10 : PySem.W.nsIn K mainGlobals "BadTravel" = some (some (.ref C10)))
    (xl10 : K.lookup C10 = some (excClassObj "BadTravel" q10 C10 N10 bs10 [.ref C0, .type "ValueError", .type "Exception", .type "BaseException", .type "object"] true sn10 sub10 ab10 col10 dd10 m010 m110 m210 m310 m510 "ValueError.__new__"))
    (sa10 : PySem.W.findIn K (.ref C10) "__setattr__" = some (some (.builtin "object.__setattr__")))
    (ga10 : PySem.W.findIn K (.ref C10) "__getattribute__" = some (some (.builtin "BaseException.__getattribute__")))
    (gg10 : PySem.W.findIn K (.ref C10) "__getattr__" = some none)
    (ha10 : PySem.W.findIn K (.ref C10) "__class__" = some (some (.builtin "object.__class__")))
    (kc10 : PySem.W.keepIn K (.ref C10) = true)
    (na10_0 : PySem.W.findIn K (.ref C10) "kind" = some none)
    (na10_1 : PySem.W.findIn K (.ref C10) "field" = some none)
    (gc11 : PySem.W.nsIn K mainGlobals "BadReader" = some (some (.ref C11)))
    (xl11 : K.lookup C11 = some (excClassObj "BadReader" q11 C11 N11 bs11 [.ref C0, .type "ValueError", .type "Exception", .type "BaseException", .type "object"] true sn11 sub11 ab11 col11 dd11 m011 m111 m211 m311 m511 "ValueError.__new__"))
    (sa11 : PySem.W.findIn K (.ref C11) "__setattr__" = some (some (.builtin "object.__setattr__")))
    (ga11 : PySem.W.findIn K (.ref C11) "__getattribute__" = some (some (.builtin "BaseException.__getattribute__")))
    (gg11 : PySem.W.findIn K (.ref C11) "__getattr__" = some none)
    (ha11 : PySem.W.findIn K (.ref C11) "__class__" = some (some (.builtin "object.__class__")))
    (kc11 : PySem.W.keepIn K (.ref C11) = true)
    (na11_0 : PySem.W.findIn K (.ref C11) "kind" = some none)
    (gc12 : PySem.W.nsIn K mainGlobals "BadRow" = some (some (.ref C12)))
    (xl12 : K.lookup C12 = some (excClassObj "BadRow" q12 C12 N12 bs12 [.ref C0, .type "ValueError", .type "Exception", .type "BaseException", .type "object"] true sn12 sub12 ab12 col12 dd12 m012 m112 m212 m312 m512 "ValueError.__new__"))
    (sa12 : PySem.W.findIn K (.ref C12) "__setattr__" = some (some (.builtin "object.__setattr__")))
    (ga12 : PySem.W.findIn K (.ref C12) "__getattribute__" = some (some (.builtin "BaseException.__getattribute__")))
    (gg12 : PySem.W.findIn K (.ref C12) "__getattr__" = some none)
    (ha12 : PySem.W.findIn K (.ref C12) "__class__" = some (some (.builtin "object.__class__")))
    (kc12 : PySem.W.keepIn K (.ref C12) = true)
    (na12_0 : PySem.W.findIn K (.ref C12) "travel" = some none)
    (gc13 : PySem.W.nsIn K mainGlobals "Endless" = some (some (.ref C13)))
    (xl13 : K.lookup C13 = some (excClassObj "Endless" q13 C13 N13 bs13 [.ref C0, .type "ValueError", .type "Exception", .type "BaseException", .type "object"] true sn13 sub13 ab13 col13 dd13 m013 m113 m213 m313 m513 "ValueError.__new__"))
    (sa13 : PySem.W.findIn K (.ref C13) "__setattr__" = some (some (.builtin "object.__setattr__")))
    (ga13 : PySem.W.findIn K (.ref C13) "__getattribute__" = some (some (.builtin "BaseException.__getattribute__")))
    (gg13 : PySem.W.findIn K (.ref C13) "__getattr__" = some none)
    (ha13 : PySem.W.findIn K (.ref C13) "__class__" = some (some (.builtin "object.__class__")))
    (kc13 : PySem.W.keepIn K (.ref C13) = true)
    (na13_0 : PySem.W.findIn K (.ref C13) "travel" = some none)
    (gc14 : PySem.W.nsIn K mainGlobals "TooLarge" = some (some (.ref C14)))
    (xl14 : K.lookup C14 = some (excClassObj "TooLarge" q14 C14 N14 bs14 [.ref C0, .type "ValueError", .type "Exception", .type "BaseException", .type "object"] true sn14 sub14 ab14 col14 dd14 m014 m114 m214 m314 m514 "ValueError.__new__"))
    (sa14 : PySem.W.findIn K (.ref C14) "__setattr__" = some (some (.builtin "object.__setattr__")))
    (ga14 : PySem.W.findIn K (.ref C14) "__getattribute__" = some (some (.builtin "BaseException.__getattribute__")))
    (gg14 : PySem.W.findIn K (.ref C14) "__getattr__" = some none)
    (ha14 : PySem.W.findIn K (.ref C14) "__class__" = some (some (.builtin "object.__class__")))
    (kc14 : PySem.W.keepIn K (.ref C14) = true)
    (na14_0 : PySem.W.findIn K (.ref C14) "count" = some none)
    (gc15 : PySem.W.nsIn K mainGlobals "BadSaved" = some (some (.ref C15)))
    (xl15 : K.lookup C15 = some (excClassObj "BadSaved" q15 C15 N15 bs15 [.ref C0, .type "ValueError", .type "Exception", .type "BaseException", .type "object"] true sn15 sub15 ab15 col15 dd15 m015 m115 m215 m315 m515 "ValueError.__new__"))
    (sa15 : PySem.W.findIn K (.ref C15) "__setattr__" = some (some (.builtin "object.__setattr__")))
    (ga15 : PySem.W.findIn K (.ref C15) "__getattribute__" = some (some (.builtin "BaseException.__getattribute__")))
    (gg15 : PySem.W.findIn K (.ref C15) "__getattr__" = some none)
    (ha15 : PySem.W.findIn K (.ref C15) "__class__" = some (some (.builtin "object.__class__")))
    (kc15 : PySem.W.keepIn K (.ref C15) = true)
    (na15_0 : PySem.W.findIn K (.ref C15) "line" = some none)
    (gc16 : PySem.W.nsIn K mainGlobals "BadStanding" = some (some (.ref C16)))
    (xl16 : K.lookup C16 = some (excClassObj "BadStanding" q16 C16 N16 bs16 [.ref C0, .type "ValueError", .type "Exception", .type "BaseException", .type "object"] true sn16 sub16 ab16 col16 dd16 m016 m116 m216 m316 m516 "ValueError.__new__"))
    (sa16 : PySem.W.findIn K (.ref C16) "__setattr__" = some (some (.builtin "object.__setattr__")))
    (ga16 : PySem.W.findIn K (.ref C16) "__getattribute__" = some (some (.builtin "BaseException.__getattribute__")))
    (gg16 : PySem.W.findIn K (.ref C16) "__getattr__" = some none)
    (ha16 : PySem.W.findIn K (.ref C16) "__class__" = some (some (.builtin "object.__class__")))
    (kc16 : PySem.W.keepIn K (.ref C16) = true)
    (qx16 : PySem.W.excIn K C16 [.type "ValueError", .type "Exception", .type "BaseException", .type "object"] "ValueError.__new__" = true)
    (gc17 : PySem.W.nsIn K mainGlobals "BadPaper" = some (some (.ref C17)))
    (xl17 : K.lookup C17 = some (excClassObj "BadPaper" q17 C17 N17 bs17 [.ref C0, .type "ValueError", .type "Exception", .type "BaseException", .type "object"] true sn17 sub17 ab17 col17 dd17 m017 m117 m217 m317 m517 "ValueError.__new__"))
    (sa17 : PySem.W.findIn K (.ref C17) "__setattr__" = some (some (.builtin "object.__setattr__")))
    (ga17 : PySem.W.findIn K (.ref C17) "__getattribute__" = some (some (.builtin "BaseException.__getattribute__")))
    (gg17 : PySem.W.findIn K (.ref C17) "__getattr__" = some none)
    (ha17 : PySem.W.findIn K (.ref C17) "__class__" = some (some (.builtin "object.__class__")))
    (kc17 : PySem.W.keepIn K (.ref C17) = true)
    (qx17 : PySem.W.excIn K C17 [.type "ValueError", .type "Exception", .type "BaseException", .type "object"] "ValueError.__new__" = true)
    (gc18 : PySem.W.nsIn K mainGlobals "BadComparer" = some (some (.ref C18)))
    (xl18 : K.lookup C18 = some (excClassObj "BadComparer" q18 C18 N18 bs18 [.ref C0, .type "ValueError", .type "Exception", .type "BaseException", .type "object"] true sn18 sub18 ab18 col18 dd18 m018 m118 m218 m318 m518 "ValueError.__new__"))
    (sa18 : PySem.W.findIn K (.ref C18) "__setattr__" = some (some (.builtin "object.__setattr__")))
    (ga18 : PySem.W.findIn K (.ref C18) "__getattribute__" = some (some (.builtin "BaseException.__getattribute__")))
    (gg18 : PySem.W.findIn K (.ref C18) "__getattr__" = some none)
    (ha18 : PySem.W.findIn K (.ref C18) "__class__" = some (some (.builtin "object.__class__")))
    (kc18 : PySem.W.keepIn K (.ref C18) = true)
    (na18_0 : PySem.W.findIn K (.ref C18) "kind" = some none)
    (gc19 : PySem.W.nsIn K mainGlobals "BadChange" = some (some (.ref C19)))
    (xl19 : K.lookup C19 = some (excClassObj "BadChange" q19 C19 N19 bs19 [.ref C0, .type "ValueError", .type "Exception", .type "BaseException", .type "object"] true sn19 sub19 ab19 col19 dd19 m019 m119 m219 m319 m519 "ValueError.__new__"))
    (sa19 : PySem.W.findIn K (.ref C19) "__setattr__" = some (some (.builtin "object.__setattr__")))
    (ga19 : PySem.W.findIn K (.ref C19) "__getattribute__" = some (some (.builtin "BaseException.__getattribute__")))
    (gg19 : PySem.W.findIn K (.ref C19) "__getattr__" = some none)
    (ha19 : PySem.W.findIn K (.ref C19) "__class__" = some (some (.builtin "object.__class__")))
    (kc19 : PySem.W.keepIn K (.ref C19) = true)
    (na19_0 : PySem.W.findIn K (.ref C19) "at" = some none)
    (gc20 : PySem.W.nsIn K mainGlobals "BadName" = some (some (.ref C20)))
    (xl20 : K.lookup C20 = some (excClassObj "BadName" q20 C20 N20 bs20 [.ref C0, .type "ValueError", .type "Exception", .type "BaseException", .type "object"] true sn20 sub20 ab20 col20 dd20 m020 m120 m220 m320 m520 "ValueError.__new__"))
    (sa20 : PySem.W.findIn K (.ref C20) "__setattr__" = some (some (.builtin "object.__setattr__")))
    (ga20 : PySem.W.findIn K (.ref C20) "__getattribute__" = some (some (.builtin "BaseException.__getattribute__")))
    (gg20 : PySem.W.findIn K (.ref C20) "__getattr__" = some none)
    (ha20 : PySem.W.findIn K (.ref C20) "__class__" = some (some (.builtin "object.__class__")))
    (kc20 : PySem.W.keepIn K (.ref C20) = true)
    (na20_0 : PySem.W.findIn K (.ref C20) "name" = some none)
    (gc21 : PySem.W.nsIn K mainGlobals "Busy" = some (some (.ref C21)))
    (xl21 : K.lookup C21 = some (excClassObj "Busy" q21 C21 N21 bs21 [.ref C0, .type "ValueError", .type "Exception", .type "BaseException", .type "object"] true sn21 sub21 ab21 col21 dd21 m021 m121 m221 m321 m521 "ValueError.__new__"))
    (sa21 : PySem.W.findIn K (.ref C21) "__setattr__" = some (some (.builtin "object.__setattr__")))
    (ga21 : PySem.W.findIn K (.ref C21) "__getattribute__" = some (some (.builtin "BaseException.__getattribute__")))
    (gg21 : PySem.W.findIn K (.ref C21) "__getattr__" = some none)
    (ha21 : PySem.W.findIn K (.ref C21) "__class__" = some (some (.builtin "object.__class__")))
    (kc21 : PySem.W.keepIn K (.ref C21) = true)
    (qx21 : PySem.W.excIn K C21 [.type "ValueError", .type "Exception", .type "BaseException", .type "object"] "ValueError.__new__" = true)
    (a0 : PySem.W.findIn K (.ref C1) "__init__" = some (some (.ref f0)))
    (l0 : K.lookup f0 = some ⟨oc0, od0, .func (PySem.W.fnX "__init__" "BadField.__init__" (defArgs s_BadField_init) (defBody s_BadField_init) (defScope s_BadField_init) [("__class__", cc0)] .none kV0 dc0 pm0 an0 (.ref cda0) ct0), sl0⟩)
    (c0 : PySem.W.codeIn K (.ref cda0) "BadField.__init__" = true)
    (t0 : PySem.W.typeIn K (.ref f0) = some (.type "function"))
    (lc0 : K.lookup cda0 = some ⟨ccl0, cdd0, .fields vs0, ccs0⟩)
    (lv0 : vs0[2]? = some (.str fl0 tf0))
    (lf0 : ((l.prog.main.file : Str) == fl0) = true)
    (ll0 : K.lookup cc0 = some ⟨cl0, cld0, .cell (some (.ref C1)), csl0⟩)
    (a1 : PySem.W.findIn K (.ref C2) "__init__" = some (some (.ref f1)))
    (l1 : K.lookup f1 = some ⟨oc1, od1, .func (PySem.W.fnX "__init__" "BadKind.__init__" (defArgs s_BadKind_init) (defBody s_BadKind_init) (defScope s_BadKind_init) [("__class__", cc1)] .none kV1 dc1 pm1 an1 (.ref cda1) ct1), sl1⟩)
    (c1 : PySem.W.codeIn K (.ref cda1) "BadKind.__init__" = true)
    (t1 : PySem.W.typeIn K (.ref f1) = some (.type "function"))
    (lc1 : K.lookup cda1 = some ⟨ccl1, cdd1, .fields vs1, ccs1⟩)
    (lv1 : vs1[2]? = some (.str fl1 tf1))
    (lf1 : ((l.prog.main.file : Str) == fl1) = true)
    (ll1 : K.lookup cc1 = some ⟨cl1, cld1, .cell (some (.ref C2)), csl1⟩)
    (a2 : PySem.W.findIn K (.ref C3) "__init__" = some (some (.ref f2)))
    (l2 : K.lookup f2 = some ⟨oc2, od2, .func (PySem.W.fnX "__init__" "BadHouse.__init__" (defArgs s_BadHouse_init) (defBody s_BadHouse_init) (defScope s_BadHouse_init) [("__class__", cc2)] .none kV2 dc2 pm2 an2 (.ref cda2) ct2), sl2⟩)
    (c2 : PySem.W.codeIn K (.ref cda2) "BadHouse.__init__" = true)
    (t2 : PySem.W.typeIn K (.ref f2) = some (.type "function"))
    (lc2 : K.lookup cda2 = some ⟨ccl2, cdd2, .fields vs2, ccs2⟩)
    (lv2 : vs2[2]? = some (.str fl2 tf2))
    (lf2 : ((l.prog.main.file : Str) == fl2) = true)
    (ll2 : K.lookup cc2 = some ⟨cl2, cld2, .cell (some (.ref C3)), csl2⟩)
    (a3 : PySem.W.findIn K (.ref C4) "__init__" = some (some (.ref f3)))
    (l3 : K.lookup f3 = some ⟨oc3, od3, .func (PySem.W.fnX "__init__" "UnknownKind.__init__" (defArgs s_UnknownKind_init) (defBody s_UnknownKind_init) (defScope s_UnknownKind_init) [("__class__", cc3)] .none kV3 dc3 pm3 an3 (.ref cda3) ct3), sl3⟩)
    (c3 : PySem.W.codeIn K (.ref cda3) "UnknownKind.__init__" = true)
    (t3 : PySem.W.typeIn K (.ref f3) = some (.type "function"))
    (lc3 : K.lookup cda3 = some ⟨ccl3, cdd3, .fields vs3, ccs3⟩)
    (lv3 : vs3[2]? = some (.str fl3 tf3))
    (lf3 : ((l.prog.main.file : Str) == fl3) = true)
    (ll3 : K.lookup cc3 = some ⟨cl3, cld3, .cell (some (.ref C4)), csl3⟩)
    (a4 : PySem.W.findIn K (.ref C5) "__init__" = some (some (.ref f4)))
    (l4 : K.lookup f4 = some ⟨oc4, od4, .func (PySem.W.fnX "__init__" "UnknownField.__init__" (defArgs s_UnknownField_init) (defBody s_UnknownField_init) (defScope s_UnknownField_init) [("__class__", cc4)] .none kV4 dc4 pm4 an4 (.ref cda4) ct4), sl4⟩)
    (c4 : PySem.W.codeIn K (.ref cda4) "UnknownField.__init__" = true)
    (t4 : PySem.W.typeIn K (.ref f4) = some (.type "function"))
    (lc4 : K.lookup cda4 = some ⟨ccl4, cdd4, .fields vs4, ccs4⟩)
    (lv4 : vs4[2]? = some (.str fl4 tf4))
    (lf4 : ((l.prog.main.file : Str) == fl4) = true)
    (ll4 : K.lookup cc4 = some ⟨cl4, cld4, .cell (some (.ref C5)), csl4⟩)
    (a5 : PySem.W.findIn K (.ref C6) "__init__" = some (some (.ref f5)))
    (l5 : K.lookup f5 = some ⟨oc5, od5, .func (PySem.W.fnX "__init__" "BadWeb.__init__" (defArgs s_BadWeb_init) (defBody s_BadWeb_init) (defScope s_BadWeb_init) [("__class__", cc5)] .none kV5 dc5 pm5 an5 (.ref cda5) ct5), sl5⟩)
    (c5 : PySem.W.codeIn K (.ref cda5) "BadWeb.__init__" = true)
    (t5 : PySem.W.typeIn K (.ref f5) = some (.type "function"))
    (lc5 : K.lookup cda5 = some ⟨ccl5, cdd5, .fields vs5, ccs5⟩)
    (lv5 : vs5[2]? = some (.str fl5 tf5))
    (lf5 : ((l.prog.main.file : Str) == fl5) = true)
    (ll5 : K.lookup cc5 = some ⟨cl5, cld5, .cell (some (.ref C6)), csl5⟩)
    (a6 : PySem.W.findIn K (.ref C7) "__init__" = some (some (.ref f6)))
    (l6 : K.lookup f6 = some ⟨oc6, od6, .func (PySem.W.fnX "__init__" "BadText.__init__" (defArgs s_BadText_init) (defBody s_BadText_init) (defScope s_BadText_init) [("__class__", cc6)] .none kV6 dc6 pm6 an6 (.ref cda6) ct6), sl6⟩)
    (c6 : PySem.W.codeIn K (.ref cda6) "BadText.__init__" = true)
    (t6 : PySem.W.typeIn K (.ref f6) = some (.type "function"))
    (lc6 : K.lookup cda6 = some ⟨ccl6, cdd6, .fields vs6, ccs6⟩)
    (lv6 : vs6[2]? = some (.str fl6 tf6))
    (lf6 : ((l.prog.main.file : Str) == fl6) = true)
    (ll6 : K.lookup cc6 = some ⟨cl6, cld6, .cell (some (.ref C7)), csl6⟩)
    (a7 : PySem.W.findIn K (.ref C8) "__init__" = some (some (.ref f7)))
    (l7 : K.lookup f7 = some ⟨oc7, od7, .func (PySem.W.fnX "__init__" "BadManner.__init__" (defArgs s_BadManner_init) (defBody s_BadManner_init) (defScope s_BadManner_init) [("__class__", cc7)] .none kV7 dc7 pm7 an7 (.ref cda7) ct7), sl7⟩)
    (c7 : PySem.W.codeIn K (.ref cda7) "BadManner.__init__" = true)
    (t7 : PySem.W.typeIn K (.ref f7) = some (.type "function"))
    (lc7 : K.lookup cda7 = some ⟨ccl7, cdd7, .fields vs7, ccs7⟩)
    (lv7 : vs7[2]? = some (.str fl7 tf7))
    (lf7 : ((l.prog.main.file : Str) == fl7) = true)
    (ll7 : K.lookup cc7 = some ⟨cl7, cld7, .cell (some (.ref C8)), csl7⟩)
    (a8 : PySem.W.findIn K (.ref C9) "__init__" = some (some (.ref f8)))
    (l8 : K.lookup f8 = some ⟨oc8, od8, .func (PySem.W.fnX "__init__" "BadClient.__init__" (defArgs s_BadClient_init) (defBody s_BadClient_init) (defScope s_BadClient_init) [("__class__", cc8)] .none kV8 dc8 pm8 an8 (.ref cda8) ct8), sl8⟩)
    (c8 : PySem.W.codeIn K (.ref cda8) "BadClient.__init__" = true)
    (t8 : PySem.W.typeIn K (.ref f8) = some (.type "function"))
    (lc8 : K.lookup cda8 = some ⟨ccl8, cdd8, .fields vs8, ccs8⟩)
    (lv8 : vs8[2]? = some (.str fl8 tf8))
    (lf8 : ((l.prog.main.file : Str) == fl8) = true)
    (ll8 : K.lookup cc8 = some ⟨cl8, cld8, .cell (some (.ref C9)), csl8⟩)
    (a9 : PySem.W.findIn K (.ref C10) "__init__" = some (some (.ref f9)))
    (l9 : K.lookup f9 = some ⟨oc9, od9, .func (PySem.W.fnX "__init__" "BadTravel.__init__" (defArgs s_BadTravel_init) (defBody s_BadTravel_init) (defScope s_BadTravel_init) [("__class__", cc9)] .none kV9 dc9 pm9 an9 (.ref cda9) ct9), sl9⟩)
    (c9 : PySem.W.codeIn K (.ref cda9) "BadTravel.__init__" = true)
    (t9 : PySem.W.typeIn K (.ref f9) = some (.type "function"))
    (lc9 : K.lookup cda9 = some ⟨ccl9, cdd9, .fields vs9, ccs9⟩)
    (lv9 : vs9[2]? = some (.str fl9 tf9))
    (lf9 : ((l.prog.main.file : Str) == fl9) = true)
    (ll9 : K.lookup cc9 = some ⟨cl9, cld9, .cell (some (.ref C10)), csl9⟩)
    (a10 : PySem.W.findIn K (.ref C11) "__init__" = some (some (.ref f10)))
    (l10 : K.lookup f10 = some ⟨oc10, od10, .func (PySem.W.fnX "__init__" "BadReader.__init__" (defArgs s_BadReader_init) (defBody s_BadReader_init) (defScope s_BadReader_init) [("__class__", cc10)] .none kV10 dc10 pm10 an10 (.ref cda10) ct10), sl10⟩)
    (c10 : PySem.W.codeIn K (.ref cda10) "BadReader.__init__" = true)
    (t10 : PySem.W.typeIn K (.ref f10) = some (.type "function"))
    (lc10 : K.lookup cda10 = some ⟨ccl10, cdd10, .fields vs10, ccs10⟩)
    (lv10 : vs10[2]? = some (.str fl10 tf10))
    (lf10 : ((l.prog.main.file : Str) == fl10) = true)
    (ll10 : K.lookup cc10 = some ⟨cl10, cld10, .cell (some (.ref C11)), csl10⟩)
    (a11 : PySem.W.findIn K (.ref C12) "__init__" = some (some (.ref f11)))
    (l11 : K.lookup f11 = some ⟨oc11, od11, .func (PySem.W.fnX "__init__" "BadRow.__init__" (defArgs s_BadRow_init) (defBody s_BadRow_init) (defScope s_BadRow_init) [("__class__", cc11)] .none kV11 dc11 pm11 an11 (.ref cda11) ct11), sl11⟩)
    (c11 : PySem.W.codeIn K (.ref cda11) "BadRow.__init__" = true)
    (t11 : PySem.W.typeIn K (.ref f11) = some (.type "function"))
    (lc11 : K.lookup cda11 = some ⟨ccl11, cdd11, .fields vs11, ccs11⟩)
    (lv11 : vs11[2]? = some (.str fl11 tf11))
    (lf11 : ((l.prog.main.file : Str) == fl11) = true)
    (ll11 : K.lookup cc11 = some ⟨cl11, cld11, .cell (some (.ref C12)), csl11⟩)
    (a12 : PySem.W.findIn K (.ref C13) "__init__" = some (some (.ref f12)))
    (l12 : K.lookup f12 = some ⟨oc12, od12, .func (PySem.W.fnX "__init__" "Endless.__init__" (defArgs s_Endless_init) (defBody s_Endless_init) (defScope s_Endless_init) [("__class__", cc12)] .none kV12 dc12 pm12 an12 (.ref cda12) ct12), sl12⟩)
    (c12 : PySem.W.codeIn K (.ref cda12) "Endless.__init__" = true)
    (t12 : PySem.W.typeIn K (.ref f12) = some (.type "function"))
    (lc12 : K.lookup cda12 = some ⟨ccl12, cdd12, .fields vs12, ccs12⟩)
    (lv12 : vs12[2]? = some (.str fl12 tf12))
    (lf12 : ((l.prog.main.file : Str) == fl12) = true)
    (ll12 : K.lookup cc12 = some ⟨cl12, cld12, .cell (some (.ref C13)), csl12⟩)
    (a13 : PySem.W.findIn K (.ref C14) "__init__" = some (some (.ref f13)))
    (l13 : K.lookup f13 = some ⟨oc13, od13, .func (PySem.W.fnX "__init__" "TooLarge.__init__" (defArgs s_TooLarge_init) (defBody s_TooLarge_init) (defScope s_TooLarge_init) [("__class__", cc13)] .none kV13 dc13 pm13 an13 (.ref cda13) ct13), sl13⟩)
    (c13 : PySem.W.codeIn K (.ref cda13) "TooLarge.__init__" = true)
    (t13 : PySem.W.typeIn K (.ref f13) = some (.type "function"))
    (lc13 : K.lookup cda13 = some ⟨ccl13, cdd13, .fields vs13, ccs13⟩)
    (lv13 : vs13[2]? = some (.str fl13 tf13))
    (lf13 : ((l.prog.main.file : Str) == fl13) = true)
    (ll13 : K.lookup cc13 = some ⟨cl13, cld13, .cell (some (.ref C14)), csl13⟩)
    (a14 : PySem.W.findIn K (.ref C15) "__init__" = some (some (.ref f14)))
    (l14 : K.lookup f14 = some ⟨oc14, od14, .func (PySem.W.fnX "__init__" "BadSaved.__init__" (defArgs s_BadSaved_init) (defBody s_BadSaved_init) (defScope s_BadSaved_init) [("__class__", cc14)] .none kV14 dc14 pm14 an14 (.ref cda14) ct14), sl14⟩)
    (c14 : PySem.W.codeIn K (.ref cda14) "BadSaved.__init__" = true)
    (t14 : PySem.W.typeIn K (.ref f14) = some (.type "function"))
    (lc14 : K.lookup cda14 = some ⟨ccl14, cdd14, .fields vs14, ccs14⟩)
    (lv14 : vs14[2]? = some (.str fl14 tf14))
    (lf14 : ((l.prog.main.file : Str) == fl14) = true)
    (ll14 : K.lookup cc14 = some ⟨cl14, cld14, .cell (some (.ref C15)), csl14⟩)
    (a15 : PySem.W.findIn K (.ref C18) "__init__" = some (some (.ref f15)))
    (l15 : K.lookup f15 = some ⟨oc15, od15, .func (PySem.W.fnX "__init__" "BadComparer.__init__" (defArgs s_BadComparer_init) (defBody s_BadComparer_init) (defScope s_BadComparer_init) [("__class__", cc15)] .none kV15 dc15 pm15 an15 (.ref cda15) ct15), sl15⟩)
    (c15 : PySem.W.codeIn K (.ref cda15) "BadComparer.__init__" = true)
    (t15 : PySem.W.typeIn K (.ref f15) = some (.type "function"))
    (lc15 : K.lookup cda15 = some ⟨ccl15, cdd15, .fields vs15, ccs15⟩)
    (lv15 : vs15[2]? = some (.str fl15 tf15))
    (lf15 : ((l.prog.main.file : Str) == fl15) = true)
    (ll15 : K.lookup cc15 = some ⟨cl15, cld15, .cell (some (.ref C18)), csl15⟩)
    (a16 : PySem.W.findIn K (.ref C19) "__init__" = some (some (.ref f16)))
    (l16 : K.lookup f16 = some ⟨oc16, od16, .func (PySem.W.fnX "__init__" "BadChange.__init__" (defArgs s_BadChange_init) (defBody s_BadChange_init) (defScope s_BadChange_init) [("__class__", cc16)] .none kV16 dc16 pm16 an16 (.ref cda16) ct16), sl16⟩)
    (c16 : PySem.W.codeIn K (.ref cda16) "BadChange.__init__" = true)
    (t16 : PySem.W.typeIn K (.ref f16) = some (.type "function"))
    (lc16 : K.lookup cda16 = some ⟨ccl16, cdd16, .fields vs16, ccs16⟩)
    (lv16 : vs16[2]? = some (.str fl16 tf16))
    (lf16 : ((l.prog.main.file : Str) == fl16) = true)
    (ll16 : K.lookup cc16 = some ⟨cl16, cld16, .cell (some (.ref C19)), csl16⟩)
    (a17 : PySem.W.findIn K (.ref C20) "__init__" = some (some (.ref f17)))
    (l17 : K.lookup f17 = some ⟨oc17, od17, .func (PySem.W.fnX "__init__" "BadName.__init__" (defArgs s_BadName_init) (defBody s_BadName_init) (defScope s_BadName_init) [("__class__", cc17)] .none kV17 dc17 pm17 an17 (.ref cda17) ct17), sl17⟩)
    (c17 : PySem.W.codeIn K (.ref cda17) "BadName.__init__" = true)
    (t17 : PySem.W.typeIn K (.ref f17) = some (.type "function"))
    (lc17 : K.lookup cda17 = some ⟨ccl17, cdd17, .fields vs17, ccs17⟩)
    (lv17 : vs17[2]? = some (.str fl17 tf17))
    (lf17 : ((l.prog.main.file : Str) == fl17) = true)
    (ll17 : K.lookup cc17 = some ⟨cl17, cld17, .cell (some (.ref C20)), csl17⟩)
    (a18 : PySem.W.nsIn K mainGlobals "_law_pen" = some (some (.ref f18))) (l18 : K.lookup f18 = some ⟨oc18, od18, .func (PySem.W.fnOf "_law_pen" "_law_pen" (defArgs s_pen) (defBody s_pen) (defScope s_pen) .none kV18 dc18 pm18 an18 cd18 ct18), sl18⟩) (c18 : PySem.W.codeIn K cd18 "_law_pen" = true) (k18 : PySem.W.keepIn K (.ref f18) = true)
    (a19 : PySem.W.nsIn K mainGlobals "_law_take" = some (some (.ref f19))) (l19 : K.lookup f19 = some ⟨oc19, od19, .func (PySem.W.fnOf "_law_take" "_law_take" (defArgs s_take) (defBody s_take) (defScope s_take) .none kV19 dc19 pm19 an19 cd19 ct19), sl19⟩) (c19 : PySem.W.codeIn K cd19 "_law_take" = true) (k19 : PySem.W.keepIn K (.ref f19) = true)
    (a20 : PySem.W.nsIn K mainGlobals "_law_one_of" = some (some (.ref f20))) (l20 : K.lookup f20 = some ⟨oc20, od20, .func (PySem.W.fnOf "_law_one_of" "_law_one_of" (defArgs s_one_of) (defBody s_one_of) (defScope s_one_of) .none kV20 dc20 pm20 an20 cd20 ct20), sl20⟩) (c20 : PySem.W.codeIn K cd20 "_law_one_of" = true) (k20 : PySem.W.keepIn K (.ref f20) = true)
    (a21 : PySem.W.nsIn K mainGlobals "_law_same" = some (some (.ref f21))) (l21 : K.lookup f21 = some ⟨oc21, od21, .func (PySem.W.fnOf "_law_same" "_law_same" (defArgs s_same) (defBody s_same) (defScope s_same) .none kV21 dc21 pm21 an21 cd21 ct21), sl21⟩) (c21 : PySem.W.codeIn K cd21 "_law_same" = true) (k21 : PySem.W.keepIn K (.ref f21) = true)
    (a22 : PySem.W.nsIn K mainGlobals "_law_plain" = some (some (.ref f22))) (l22 : K.lookup f22 = some ⟨oc22, od22, .func (PySem.W.fnOf "_law_plain" "_law_plain" (defArgs s_plain) (defBody s_plain) (defScope s_plain) .none kV22 dc22 pm22 an22 cd22 ct22), sl22⟩) (c22 : PySem.W.codeIn K cd22 "_law_plain" = true) (k22 : PySem.W.keepIn K (.ref f22) = true)
    (a23 : PySem.W.nsIn K mainGlobals "_law_classes" = some (some (.ref f23))) (l23 : K.lookup f23 = some ⟨oc23, od23, .func (PySem.W.fnOf "_law_classes" "_law_classes" (defArgs s_classes) (defBody s_classes) (defScope s_classes) .none kV23 dc23 pm23 an23 cd23 ct23), sl23⟩) (c23 : PySem.W.codeIn K cd23 "_law_classes" = true) (k23 : PySem.W.keepIn K (.ref f23) = true)
    (a24 : PySem.W.nsIn K mainGlobals "_law_first" = some (some (.ref f24))) (l24 : K.lookup f24 = some ⟨oc24, od24, .func (PySem.W.fnOf "_law_first" "_law_first" (defArgs s_first) (defBody s_first) (defScope s_first) .none kV24 dc24 pm24 an24 cd24 ct24), sl24⟩) (c24 : PySem.W.codeIn K cd24 "_law_first" = true) (k24 : PySem.W.keepIn K (.ref f24) = true)
    (a25 : PySem.W.nsIn K mainGlobals "_law_second" = some (some (.ref f25))) (l25 : K.lookup f25 = some ⟨oc25, od25, .func (PySem.W.fnOf "_law_second" "_law_second" (defArgs s_second) (defBody s_second) (defScope s_second) .none kV25 dc25 pm25 an25 cd25 ct25), sl25⟩) (c25 : PySem.W.codeIn K cd25 "_law_second" = true) (k25 : PySem.W.keepIn K (.ref f25) = true)
    (a26 : PySem.W.nsIn K mainGlobals "_law_third" = some (some (.ref f26))) (l26 : K.lookup f26 = some ⟨oc26, od26, .func (PySem.W.fnOf "_law_third" "_law_third" (defArgs s_third) (defBody s_third) (defScope s_third) .none kV26 dc26 pm26 an26 cd26 ct26), sl26⟩) (c26 : PySem.W.codeIn K cd26 "_law_third" = true) (k26 : PySem.W.keepIn K (.ref f26) = true)
    (a27 : PySem.W.nsIn K mainGlobals "_law_by_names" = some (some (.ref f27))) (l27 : K.lookup f27 = some ⟨oc27, od27, .func (PySem.W.fnOf "_law_by_names" "_law_by_names" (defArgs s_by_names) (defBody s_by_names) (defScope s_by_names) .none kV27 dc27 pm27 an27 cd27 ct27), sl27⟩) (c27 : PySem.W.codeIn K cd27 "_law_by_names" = true) (k27 : PySem.W.keepIn K (.ref f27) = true)
    (a28 : PySem.W.nsIn K mainGlobals "_law_caught" = some (some (.ref f28))) (l28 : K.lookup f28 = some ⟨oc28, od28, .func (PySem.W.fnOf "_law_caught" "_law_caught" (defArgs s_caught) (defBody s_caught) (defScope s_caught) .none kV28 dc28 pm28 an28 cd28 ct28), sl28⟩) (c28 : PySem.W.codeIn K cd28 "_law_caught" = true) (k28 : PySem.W.keepIn K (.ref f28) = true)
    (a29 : PySem.W.nsIn K mainGlobals "law" = some (some (.ref f29))) (l29 : K.lookup f29 = some ⟨oc29, od29, .func (PySem.W.fnOf "law" "law" (defArgs s_law) (defBody s_law) (defScope s_law) .none kV29 dc29 pm29 an29 cd29 ct29), sl29⟩) (c29 : PySem.W.codeIn K cd29 "law" = true) (k29 : PySem.W.keepIn K (.ref f29) = true)
    (z0 : PySem.W.nsIn K mainGlobals "ValueError" = some none)
    (z1 : PySem.W.nsIn K mainGlobals "range" = some none)
    (z2 : PySem.W.nsIn K mainGlobals "list" = some none)
    (z3 : PySem.W.nsIn K mainGlobals "int" = some none)
    (z4 : PySem.W.nsIn K mainGlobals "repr" = some none)
    (z5 : PySem.W.nsIn K mainGlobals "isinstance" = some none)
    (z6 : PySem.W.nsIn K mainGlobals "len" = some none)
    (z7 : PySem.W.nsIn K mainGlobals "str" = some none)
    (z8 : PySem.W.nsIn K mainGlobals "super" = some none)
    : ∃ fd : FuncData, (∀ (s : Shared) (v : Value), BindsTo s fd ⟨[v], []⟩ [("_law_script", v)]) ∧ ∀ base : Heap, K.In base → base.Ns mainGlobals mg → Way.FnG l.prog w K mg base CX0 4 fa fd ["_law_script"] (spLaw K) := by
  have e := hfa.symm.trans (PySem.W.mg_of X G a29)
  cases e
  have XR : Way.XRoot K C0 N0 := ⟨⟨_, _, _, _, _, _, _, _, _, _, _, _, xl0⟩, ini⟩
  have XA : Way.XAll K := ⟨xhn, xht, xop⟩
  have XC1 : Way.XCls K "BadField" C1 N1 C0 := ⟨⟨_, _, _, _, _, _, _, _, _, _, _, _, xl1⟩, sa1, ga1, gg1, ha1, kc1⟩
  have XC2 : Way.XCls K "BadKind" C2 N2 C0 := ⟨⟨_, _, _, _, _, _, _, _, _, _, _, _, xl2⟩, sa2, ga2, gg2, ha2, kc2⟩
  have XC3 : Way.XCls K "BadHouse" C3 N3 C0 := ⟨⟨_, _, _, _, _, _, _, _, _, _, _, _, xl3⟩, sa3, ga3, gg3, ha3, kc3⟩
  have XC4 : Way.XCls K "UnknownKind" C4 N4 C0 := ⟨⟨_, _, _, _, _, _, _, _, _, _, _, _, xl4⟩, sa4, ga4, gg4, ha4, kc4⟩
  have XC5 : Way.XCls K "UnknownField" C5 N5 C0 := ⟨⟨_, _, _, _, _, _, _, _, _, _, _, _, xl5⟩, sa5, ga5, gg5, ha5, kc5⟩
  have XC6 : Way.XCls K "BadWeb" C6 N6 C0 := ⟨⟨_, _, _, _, _, _, _, _, _, _, _, _, xl6⟩, sa6, ga6, gg6, ha6, kc6⟩
  have XC7 : Way.XCls K "BadText" C7 N7 C0 := ⟨⟨_, _, _, _, _, _, _, _, _, _, _, _, xl7⟩, sa7, ga7, gg7, ha7, kc7⟩
  have XC8 : Way.XCls K "BadManner" C8 N8 C0 := ⟨⟨_, _, _, _, _, _, _, _, _, _, _, _, xl8⟩, sa8, ga8, gg8, ha8, kc8⟩
  have XC9 : Way.XCls K "BadClient" C9 N9 C0 := ⟨⟨_, _, _, _, _, _, _, _, _, _, _, _, xl9⟩, sa9, ga9, gg9, ha9, kc9⟩
  have XC10 : Way.XCls K "BadTravel" C10 N10 C0 := ⟨⟨_, _, _, _, _, _, _, _, _, _, _, _, xl10⟩, sa10, ga10, gg10, ha10, kc10⟩
  have XC11 : Way.XCls K "BadReader" C11 N11 C0 := ⟨⟨_, _, _, _, _, _, _, _, _, _, _, _, xl11⟩, sa11, ga11, gg11, ha11, kc11⟩
  have XC12 : Way.XCls K "BadRow" C12 N12 C0 := ⟨⟨_, _, _, _, _, _, _, _, _, _, _, _, xl12⟩, sa12, ga12, gg12, ha12, kc12⟩
  have XC13 : Way.XCls K "Endless" C13 N13 C0 := ⟨⟨_, _, _, _, _, _, _, _, _, _, _, _, xl13⟩, sa13, ga13, gg13, ha13, kc13⟩
  have XC14 : Way.XCls K "TooLarge" C14 N14 C0 := ⟨⟨_, _, _, _, _, _, _, _, _, _, _, _, xl14⟩, sa14, ga14, gg14, ha14, kc14⟩
  have XC15 : Way.XCls K "BadSaved" C15 N15 C0 := ⟨⟨_, _, _, _, _, _, _, _, _, _, _, _, xl15⟩, sa15, ga15, gg15, ha15, kc15⟩
  have XC16 : Way.XCls K "BadStanding" C16 N16 C0 := ⟨⟨_, _, _, _, _, _, _, _, _, _, _, _, xl16⟩, sa16, ga16, gg16, ha16, kc16⟩
  have XC17 : Way.XCls K "BadPaper" C17 N17 C0 := ⟨⟨_, _, _, _, _, _, _, _, _, _, _, _, xl17⟩, sa17, ga17, gg17, ha17, kc17⟩
  have XC18 : Way.XCls K "BadComparer" C18 N18 C0 := ⟨⟨_, _, _, _, _, _, _, _, _, _, _, _, xl18⟩, sa18, ga18, gg18, ha18, kc18⟩
  have XC19 : Way.XCls K "BadChange" C19 N19 C0 := ⟨⟨_, _, _, _, _, _, _, _, _, _, _, _, xl19⟩, sa19, ga19, gg19, ha19, kc19⟩
  have XC20 : Way.XCls K "BadName" C20 N20 C0 := ⟨⟨_, _, _, _, _, _, _, _, _, _, _, _, xl20⟩, sa20, ga20, gg20, ha20, kc20⟩
  have XC21 : Way.XCls K "Busy" C21 N21 C0 := ⟨⟨_, _, _, _, _, _, _, _, _, _, _, _, xl21⟩, sa21, ga21, gg21, ha21, kc21⟩
  let T : Txt l.prog K mg := {
    f_BadField_init := f0, d_BadField_init := _, c_BadField_init := cda0, cc_BadField_init := cc0, B_BadField_init := fun s us _ hl => (match us, hl with | [_, _], _ => .of_eq rfl),
    S_BadField := XC1.supFn (st := s_BadField_init) XR XA ⟨_, _, _, _, _, _, _, _, rfl, l0⟩ c0 ⟨_, _, _, _, _, _, lc0, lv0, lf0⟩ ⟨_, _, _, ll0⟩ top, i_BadField := a0, t_BadField := t0,
    f_BadKind_init := f1, d_BadKind_init := _, c_BadKind_init := cda1, cc_BadKind_init := cc1, B_BadKind_init := fun s us _ hl => (match us, hl with | [_, _], _ => .of_eq rfl),
    S_BadKind := XC2.supFn (st := s_BadKind_init) XR XA ⟨_, _, _, _, _, _, _, _, rfl, l1⟩ c1 ⟨_, _, _, _, _, _, lc1, lv1, lf1⟩ ⟨_, _, _, ll1⟩ top, i_BadKind := a1, t_BadKind := t1,
    f_BadHouse_init := f2, d_BadHouse_init := _, c_BadHouse_init := cda2, cc_BadHouse_init := cc2, B_BadHouse_init := fun s us _ hl => (match us, hl with | [_, _], _ => .of_eq rfl),
    S_BadHouse := XC3.supFn (st := s_BadHouse_init) XR XA ⟨_, _, _, _, _, _, _, _, rfl, l2⟩ c2 ⟨_, _, _, _, _, _, lc2, lv2, lf2⟩ ⟨_, _, _, ll2⟩ top, i_BadHouse := a2, t_BadHouse := t2,
    f_UnknownKind_init := f3, d_UnknownKind_init := _, c_UnknownKind_init := cda3, cc_UnknownKind_init := cc3, B_UnknownKind_init := fun s us _ hl => (match us, hl with | [_, _], _ => .of_eq rfl),
    S_UnknownKind := XC4.supFn (st := s_UnknownKind_init) XR XA ⟨_, _, _, _, _, _, _, _, rfl, l3⟩ c3 ⟨_, _, _, _, _, _, lc3, lv3, lf3⟩ ⟨_, _, _, ll3⟩ top, i_UnknownKind := a3, t_UnknownKind := t3,
    f_UnknownField_init := f4, d_UnknownField_init := _, c_UnknownField_init := cda4, cc_UnknownField_init := cc4, B_UnknownField_init := fun s us _ hl => (match us, hl with | [_, _, _], _ => .of_eq rfl),
    S_UnknownField := XC5.supFn (st := s_UnknownField_init) XR XA ⟨_, _, _, _, _, _, _, _, rfl, l4⟩ c4 ⟨_, _, _, _, _, _, lc4, lv4, lf4⟩ ⟨_, _, _, ll4⟩ top, i_UnknownField := a4, t_UnknownField := t4,
    f_BadWeb_init := f5, d_BadWeb_init := _, c_BadWeb_init := cda5, cc_BadWeb_init := cc5, B_BadWeb_init := fun s us _ hl => (match us, hl with | [_, _], _ => .of_eq rfl),
    S_BadWeb := XC6.supFn (st := s_BadWeb_init) XR XA ⟨_, _, _, _, _, _, _, _, rfl, l5⟩ c5 ⟨_, _, _, _, _, _, lc5, lv5, lf5⟩ ⟨_, _, _, ll5⟩ top, i_BadWeb := a5, t_BadWeb := t5,
    f_BadText_init := f6, d_BadText_init := _, c_BadText_init := cda6, cc_BadText_init := cc6, B_BadText_init := fun s us _ hl => (match us, hl with | [_, _], _ => .of_eq rfl),
    S_BadText := XC7.supFn (st := s_BadText_init) XR XA ⟨_, _, _, _, _, _, _, _, rfl, l6⟩ c6 ⟨_, _, _, _, _, _, lc6, lv6, lf6⟩ ⟨_, _, _, ll6⟩ top, i_BadText := a6, t_BadText := t6,
    f_BadManner_init := f7, d_BadManner_init := _, c_BadManner_init := cda7, cc_BadManner_init := cc7, B_BadManner_init := fun s us _ hl => (match us, hl with | [_, _], _ => .of_eq rfl),
    S_BadManner := XC8.supFn (st := s_BadManner_init) XR XA ⟨_, _, _, _, _, _, _, _, rfl, l7⟩ c7 ⟨_, _, _, _, _, _, lc7, lv7, lf7⟩ ⟨_, _, _, ll7⟩ top, i_BadManner := a7, t_BadManner := t7,
    f_BadClient_init := f8, d_BadClient_init := _, c_BadClient_init := cda8, cc_BadClient_init := cc8, B_BadClient_init := fun s us _ hl => (match us, hl with | [_, _], _ => .of_eq rfl),
    S_BadClient := XC9.supFn (st := s_BadClient_init) XR XA ⟨_, _, _, _, _, _, _, _, rfl, l8⟩ c8 ⟨_, _, _, _, _, _, lc8, lv8, lf8⟩ ⟨_, _, _, ll8⟩ top, i_BadClient := a8, t_BadClient := t8,
    f_BadTravel_init := f9, d_BadTravel_init := _, c_BadTravel_init := cda9, cc_BadTravel_init := cc9, B_BadTravel_init := fun s us _ hl => (match us, hl with | [_, _, _], _ => .of_eq rfl),
    S_BadTravel := XC10.supFn (st := s_BadTravel_init) XR XA ⟨_, _, _, _, _, _, _, _, rfl, l9⟩ c9 ⟨_, _, _, _, _, _, lc9, lv9, lf9⟩ ⟨_, _, _, ll9⟩ top, i_BadTravel := a9, t_BadTravel := t9,
    f_BadReader_init := f10, d_BadReader_init := _, c_BadReader_init := cda10, cc_BadReader_init := cc10, B_BadReader_init := fun s us _ hl => (match us, hl with | [_, _], _ => .of_eq rfl),
    S_BadReader := XC11.supFn (st := s_BadReader_init) XR XA ⟨_, _, _, _, _, _, _, _, rfl, l10⟩ c10 ⟨_, _, _, _, _, _, lc10, lv10, lf10⟩ ⟨_, _, _, ll10⟩ top, i_BadReader := a10, t_BadReader := t10,
    f_BadRow_init := f11, d_BadRow_init := _, c_BadRow_init := cda11, cc_BadRow_init := cc11, B_BadRow_init := fun s us _ hl => (match us, hl with | [_, _], _ => .of_eq rfl),
    S_BadRow := XC12.supFn (st := s_BadRow_init) XR XA ⟨_, _, _, _, _, _, _, _, rfl, l11⟩ c11 ⟨_, _, _, _, _, _, lc11, lv11, lf11⟩ ⟨_, _, _, ll11⟩ top, i_BadRow := a11, t_BadRow := t11,
    f_Endless_init := f12, d_Endless_init := _, c_Endless_init := cda12, cc_Endless_init := cc12, B_Endless_init := fun s us _ hl => (match us, hl with | [_, _], _ => .of_eq rfl),
    S_Endless := XC13.supFn (st := s_Endless_init) XR XA ⟨_, _, _, _, _, _, _, _, rfl, l12⟩ c12 ⟨_, _, _, _, _, _, lc12, lv12, lf12⟩ ⟨_, _, _, ll12⟩ top, i_Endless := a12, t_Endless := t12,
    f_TooLarge_init := f13, d_TooLarge_init := _, c_TooLarge_init := cda13, cc_TooLarge_init := cc13, B_TooLarge_init := fun s us _ hl => (match us, hl with | [_, _], _ => .of_eq rfl),
    S_TooLarge := XC14.supFn (st := s_TooLarge_init) XR XA ⟨_, _, _, _, _, _, _, _, rfl, l13⟩ c13 ⟨_, _, _, _, _, _, lc13, lv13, lf13⟩ ⟨_, _, _, ll13⟩ top, i_TooLarge := a13, t_TooLarge := t13,
    f_BadSaved_init := f14, d_BadSaved_init := _, c_BadSaved_init := cda14, cc_BadSaved_init := cc14, B_BadSaved_init := fun s us _ hl => (match us, hl with | [_, _], _ => .of_eq rfl),
    S_BadSaved := XC15.supFn (st := s_BadSaved_init) XR XA ⟨_, _, _, _, _, _, _, _, rfl, l14⟩ c14 ⟨_, _, _, _, _, _, lc14, lv14, lf14⟩ ⟨_, _, _, ll14⟩ top, i_BadSaved := a14, t_BadSaved := t14,
    f_BadComparer_init := f15, d_BadComparer_init := _, c_BadComparer_init := cda15, cc_BadComparer_init := cc15, B_BadComparer_init := fun s us _ hl => (match us, hl with | [_, _], _ => .of_eq rfl),
    S_BadComparer := XC18.supFn (st := s_BadComparer_init) XR XA ⟨_, _, _, _, _, _, _, _, rfl, l15⟩ c15 ⟨_, _, _, _, _, _, lc15, lv15, lf15⟩ ⟨_, _, _, ll15⟩ top, i_BadComparer := a15, t_BadComparer := t15,
    f_BadChange_init := f16, d_BadChange_init := _, c_BadChange_init := cda16, cc_BadChange_init := cc16, B_BadChange_init := fun s us _ hl => (match us, hl with | [_, _], _ => .of_eq rfl),
    S_BadChange := XC19.supFn (st := s_BadChange_init) XR XA ⟨_, _, _, _, _, _, _, _, rfl, l16⟩ c16 ⟨_, _, _, _, _, _, lc16, lv16, lf16⟩ ⟨_, _, _, ll16⟩ top, i_BadChange := a16, t_BadChange := t16,
    f_BadName_init := f17, d_BadName_init := _, c_BadName_init := cda17, cc_BadName_init := cc17, B_BadName_init := fun s us _ hl => (match us, hl with | [_, _], _ => .of_eq rfl),
    S_BadName := XC20.supFn (st := s_BadName_init) XR XA ⟨_, _, _, _, _, _, _, _, rfl, l17⟩ c17 ⟨_, _, _, _, _, _, lc17, lv17, lf17⟩ ⟨_, _, _, ll17⟩ top, i_BadName := a17, t_BadName := t17,
    f_pen := f18, d_pen := _, F_pen := fun_mk (st := s_pen) l18 c18 k18, B_pen := (fun_mk (st := s_pen) l18 c18 k18).binds (ps := P_pen) (fun _ _ _ _ _ _ us hl => match us, hl with | [_], _ => rfl), g_pen := PySem.W.mg_of X G a18,
    f_take := f19, d_take := _, F_take := fun_mk (st := s_take) l19 c19 k19, B_take := (fun_mk (st := s_take) l19 c19 k19).binds (ps := P_take) (fun _ _ _ _ _ _ us hl => match us, hl with | [_, _], _ => rfl), g_take := PySem.W.mg_of X G a19,
    f_one_of := f20, d_one_of := _, F_one_of := fun_mk (st := s_one_of) l20 c20 k20, B_one_of := (fun_mk (st := s_one_of) l20 c20 k20).binds (ps := P_one_of) (fun _ _ _ _ _ _ us hl => match us, hl with | [_, _], _ => rfl), g_one_of := PySem.W.mg_of X G a20,
    f_same := f21, d_same := _, F_same := fun_mk (st := s_same) l21 c21 k21, B_same := (fun_mk (st := s_same) l21 c21 k21).binds (ps := P_same) (fun _ _ _ _ _ _ us hl => match us, hl with | [_, _], _ => rfl), g_same := PySem.W.mg_of X G a21,
    f_plain := f22, d_plain := _, F_plain := fun_mk (st := s_plain) l22 c22 k22, B_plain := (fun_mk (st := s_plain) l22 c22 k22).binds (ps := P_plain) (fun _ _ _ _ _ _ us hl => match us, hl with | [_], _ => rfl), g_plain := PySem.W.mg_of X G a22,
    f_classes := f23, d_classes := _, F_classes := fun_mk (st := s_classes) l23 c23 k23, B_classes := (fun_mk (st := s_classes) l23 c23 k23).binds (ps := P_classes) (fun _ _ _ _ _ _ us hl => match us, hl with | [_], _ => rfl), g_classes := PySem.W.mg_of X G a23,
    f_first := f24, d_first := _, F_first := fun_mk (st := s_first) l24 c24 k24, B_first := (fun_mk (st := s_first) l24 c24 k24).binds (ps := P_first) (fun _ _ _ _ _ _ us hl => match us, hl with | [_, _], _ => rfl), g_first := PySem.W.mg_of X G a24,
    f_second := f25, d_second := _, F_second := fun_mk (st := s_second) l25 c25 k25, B_second := (fun_mk (st := s_second) l25 c25 k25).binds (ps := P_second) (fun _ _ _ _ _ _ us hl => match us, hl with | [_, _], _ => rfl), g_second := PySem.W.mg_of X G a25,
    f_third := f26, d_third := _, F_third := fun_mk (st := s_third) l26 c26 k26, B_third := (fun_mk (st := s_third) l26 c26 k26).binds (ps := P_third) (fun _ _ _ _ _ _ us hl => match us, hl with | [_], _ => rfl), g_third := PySem.W.mg_of X G a26,
    f_by_names := f27, d_by_names := _, F_by_names := fun_mk (st := s_by_names) l27 c27 k27, B_by_names := (fun_mk (st := s_by_names) l27 c27 k27).binds (ps := P_by_names) (fun _ _ _ _ _ _ us hl => match us, hl with | [_, _], _ => rfl), g_by_names := PySem.W.mg_of X G a27,
    f_caught := f28, d_caught := _, F_caught := fun_mk (st := s_caught) l28 c28 k28, B_caught := (fun_mk (st := s_caught) l28 c28 k28).binds (ps := P_caught) (fun _ _ _ _ _ _ us hl => match us, hl with | [_, _], _ => rfl), g_caught := PySem.W.mg_of X G a28,
    f_law := fa, d_law := _, F_law := fun_mk (st := s_law) l29 c29 k29, B_law := (fun_mk (st := s_law) l29 c29 k29).binds (ps := P_law) (fun _ _ _ _ _ _ us hl => match us, hl with | [_], _ => rfl), g_law := PySem.W.mg_of X G a29,
    C_WayError := C0, nsp_WayError := N0, g_WayError := PySem.W.mg_of X G gc0, r_WayError := XR, xall := XA,
    C_BadField := C1, nsp_BadField := N1, g_BadField := PySem.W.mg_of X G gc1, X_BadField := XC1,
    na_BadField_name := na1_0,
    C_BadKind := C2, nsp_BadKind := N2, g_BadKind := PySem.W.mg_of X G gc2, X_BadKind := XC2,
    na_BadKind_name := na2_0,
    C_BadHouse := C3, nsp_BadHouse := N3, g_BadHouse := PySem.W.mg_of X G gc3, X_BadHouse := XC3,
    na_BadHouse_name := na3_0,
    C_UnknownKind := C4, nsp_UnknownKind := N4, g_UnknownKind := PySem.W.mg_of X G gc4, X_UnknownKind := XC4,
    na_UnknownKind_name := na4_0,
    C_UnknownField := C5, nsp_UnknownField := N5, g_UnknownField := PySem.W.mg_of X G gc5, X_UnknownField := XC5,
    na_UnknownField_kind := na5_0,
    na_UnknownField_name := na5_1,
    C_BadWeb := C6, nsp_BadWeb := N6, g_BadWeb := PySem.W.mg_of X G gc6, X_BadWeb := XC6,
    na_BadWeb_thing := na6_0,
    C_BadText := C7, nsp_BadText := N7, g_BadText := PySem.W.mg_of X G gc7, X_BadText := XC7,
    na_BadText_line := na7_0,
    C_BadManner := C8, nsp_BadManner := N8, g_BadManner := PySem.W.mg_of X G gc8, X_BadManner := XC8,
    na_BadManner_name := na8_0,
    C_BadClient := C9, nsp_BadClient := N9, g_BadClient := PySem.W.mg_of X G gc9, X_BadClient := XC9,
    na_BadClient_line := na9_0,
    C_BadTravel := C10, nsp_BadTravel := N10, g_BadTravel := PySem.W.mg_of X G gc10, X_BadTravel := XC10,
    na_BadTravel_kind := na10_0,
    na_BadTravel_field := na10_1,
    C_BadReader := C11, nsp_BadReader := N11, g_BadReader := PySem.W.mg_of X G gc11, X_BadReader := XC11,
    na_BadReader_kind := na11_0,
    C_BadRow := C12, nsp_BadRow := N12, g_BadRow := PySem.W.mg_of X G gc12, X_BadRow := XC12,
    na_BadRow_travel := na12_0,
    C_Endless := C13, nsp_Endless := N13, g_Endless := PySem.W.mg_of X G gc13, X_Endless := XC13,
    na_Endless_travel := na13_0,
    C_TooLarge := C14, nsp_TooLarge := N14, g_TooLarge := PySem.W.mg_of X G gc14, X_TooLarge := XC14,
    na_TooLarge_count := na14_0,
    C_BadSaved := C15, nsp_BadSaved := N15, g_BadSaved := PySem.W.mg_of X G gc15, X_BadSaved := XC15,
    na_BadSaved_line := na15_0,
    C_BadStanding := C16, nsp_BadStanding := N16, g_BadStanding := PySem.W.mg_of X G gc16, X_BadStanding := XC16,
    q_BadStanding := qx16,
    C_BadPaper := C17, nsp_BadPaper := N17, g_BadPaper := PySem.W.mg_of X G gc17, X_BadPaper := XC17,
    q_BadPaper := qx17,
    C_BadComparer := C18, nsp_BadComparer := N18, g_BadComparer := PySem.W.mg_of X G gc18, X_BadComparer := XC18,
    na_BadComparer_kind := na18_0,
    C_BadChange := C19, nsp_BadChange := N19, g_BadChange := PySem.W.mg_of X G gc19, X_BadChange := XC19,
    na_BadChange_at := na19_0,
    C_BadName := C20, nsp_BadName := N20, g_BadName := PySem.W.mg_of X G gc20, X_BadName := XC20,
    na_BadName_name := na20_0,
    C_Busy := C21, nsp_Busy := N21, g_Busy := PySem.W.mg_of X G gc21, X_Busy := XC21,
    q_Busy := qx21,
    b_ValueError := PySem.W.mg_none_of X G z0,
    b_range := PySem.W.mg_none_of X G z1,
    b_list := PySem.W.mg_none_of X G z2,
    b_int := PySem.W.mg_none_of X G z3,
    b_repr := PySem.W.mg_none_of X G z4,
    b_isinstance := PySem.W.mg_none_of X G z5,
    b_len := PySem.W.mg_none_of X G z6,
    b_str := PySem.W.mg_none_of X G z7,
    b_super := PySem.W.mg_none_of X G z8 }
  exact ⟨PySem.W.fnOf "law" "law" (defArgs s_law) (defBody s_law) (defScope s_law) .none kV29 dc29 pm29 an29 cd29 ct29, fun s v => .of_eq rfl, fun base _ _ => ok_law T⟩
theorem walk {l : PySem.W.OpenLaw} {q : Program} {loose : List Str} {XP : (Str → Option Value) → Heap → Prop} {YP : World → Heap → Prop} {d : DefRec} {K : Params → PySem.W.Frag} (hn : l.most = some 63) (hdf : d.params.defaults = [])
    (hY : ∀ (w : World) (h : Heap), YP w h → (K w.params).In h)
    (F : ∀ (w : World) (mg : Str → Option Value) (fa : Addr) (h : Heap), (K w.params).In h → h.Ns mainGlobals mg → mg d.name = some (.ref fa) →
      ∃ fd : FuncData, (∀ (s : Shared) (u : Value), BindsTo s fd ⟨[u], []⟩ [("_law_script", u)]) ∧ ∀ base : Heap, (K w.params).In base → base.Ns mainGlobals mg → Way.FnG l.prog w (K w.params) mg base CX0 4 fa fd ["_law_script"] (spLaw (K w.params))) :
    PySem.W.WalkO q loose XP YP l.row.toRowW d [] (fun f vs => PySem.call f vs) :=
  Way.walk_ofG (n := 63) (k := 4) (x := "_law_script") (CX := fun _ => CX0) (sp := fun w => spLaw (K w.params)) hn (by decide) hdf ⟨rfl, by decide, by decide⟩ hY F (fun _ _ a ns hl _ hS => ⟨a, ns, rfl, hS, hl, fun _ => rfl⟩) fun _ _ _ _ _ z => z
end K00

open PySem PySem.W PyProof.Rows in
set_option maxRecDepth 100000 in
set_option maxHeartbeats 0 in
theorem PySem.Challenge.cw_waypairs_k00_errors_and_their_fields_holds : PySem.Challenge.rw_waypairs_k00_errors_and_their_fields.Holds := by
  w_on; o_law; k_head; (case hw => w_witness2)
  k_fill
  refine K00.walk (l := PySem.Challenge.rw_waypairs_k00_errors_and_their_fields) rfl rfl (fun w h Y => PySem.W.kIn_of Y) ?F
  case F =>
    intro w mg fa h KX G hmg
    refine' K00.all_mk KX G hmg ?gc0 ?xl0 ?ini ?xhn ?xht ?xop ?top ?gc1 ?xl1 ?sa1 ?ga1 ?gg1 ?ha1 ?kc1 ?na1_0 ?gc2 ?xl2 ?sa2 ?ga2 ?gg2 ?ha2 ?kc2 ?na2_0 ?gc3 ?xl3 ?sa3 ?ga3 ?gg3 ?ha3 ?kc3 ?na3_0 ?gc4 ?xl4 ?sa4 ?ga4 ?gg4 ?ha4 ?kc4 ?na4_0 ?gc5 ?xl5 ?sa5 ?ga5 ?gg5 ?ha5 ?kc5 ?na5_0 ?na5_1 ?gc6 ?xl6 ?sa6 ?ga6 ?gg6 ?ha6 ?kc6 ?na6_0 ?gc7 ?xl7 ?sa7 ?ga7 ?gg7 ?ha7 ?kc7 ?na7_0 ?gc8 ?xl8 ?sa8 ?ga8 ?gg8 ?ha8 ?kc8 ?na8_0 ?gc9 ?xl9 ?sa9 ?ga9 ?gg9 ?ha9 ?kc9 ?na9_0 ?gc10 ?xl10 ?sa10 ?ga10 ?gg10 ?ha10 ?kc10 ?na10_0 ?na10_1 ?gc11 ?xl11 ?sa11 ?ga11 ?gg11 ?ha11 ?kc11 ?na11_0 ?gc12 ?xl12 ?sa12 ?ga12 ?gg12 ?ha12 ?kc12 ?na12_0 ?gc13 ?xl13 ?sa13 ?ga13 ?gg13 ?ha13 ?kc13 ?na13_0 ?gc14 ?xl14 ?sa14 ?ga14 ?gg14 ?ha14 ?kc14 ?na14_0 ?gc15 ?xl15 ?sa15 ?ga15 ?gg15 ?ha15 ?kc15 ?na15_0 ?gc16 ?xl16 ?sa16 ?ga16 ?gg16 ?ha16 ?kc16 ?qx16 ?gc17 ?xl17 ?sa17 ?ga17 ?gg17 ?ha17 ?kc17 ?qx17 ?gc18 ?xl18 ?sa18 ?ga18 ?gg18 ?ha18 ?kc18 ?na18_0 ?gc19 ?xl19 ?sa19 ?ga19 ?gg19 ?ha19 ?kc19 ?na19_0 ?gc20 ?xl20 ?sa20 ?ga20 ?gg20 ?ha20 ?kc20 ?na20_0 ?gc21 ?xl21 ?sa21 ?ga21 ?gg21 ?ha21 ?kc21 ?qx21 ?a0 ?l0 ?c0 ?t0 ?lc0 ?lv0 ?lf0 ?ll0 ?a1 ?l1 ?c1 ?t1 ?lc1 ?lv1 ?lf1 ?ll1 ?a2 ?l2 ?c2 ?t2 ?lc2 ?lv2 ?lf2 ?ll2 ?a3 ?l3 ?c3 ?t3 ?lc3 ?lv3 ?lf3 ?ll3 ?a4 ?l4 ?c4 ?t4 ?lc4 ?lv4 ?lf4 ?ll4 ?a5 ?l5 ?c5 ?t5 ?lc5 ?lv5 ?lf5 ?ll5 ?a6 ?l6 ?c6 ?t6 ?lc6 ?lv6 ?lf6 ?ll6 ?a7 ?l7 ?c7 ?t7 ?lc7 ?lv7 ?lf7 ?ll7 ?a8 ?l8 ?c8 ?t8 ?lc8 ?lv8 ?lf8 ?ll8 ?a9 ?l9 ?c9 ?t9 ?lc9 ?lv9 ?lf9 ?ll9 ?a10 ?l10 ?c10 ?t10 ?lc10 ?lv10 ?lf10 ?ll10 ?a11 ?l11 ?c11 ?t11 ?lc11 ?lv11 ?lf11 ?ll11 ?a12 ?l12 ?c12 ?t12 ?lc12 ?lv12 ?lf12 ?ll12 ?a13 ?l13 ?c13 ?t13 ?lc13 ?lv13 ?lf13 ?ll13 ?a14 ?l14 ?c14 ?t14 ?lc14 ?lv14 ?lf14 ?ll14 ?a15 ?l15 ?c15 ?t15 ?lc15 ?lv15 ?lf15 ?ll15 ?a16 ?l16 ?c16 ?t16 ?lc16 ?lv16 ?lf16 ?ll16 ?a17 ?l17 ?c17 ?t17 ?lc17 ?lv17 ?lf17 ?ll17 ?a18 ?l18 ?c18 ?k18 ?a19 ?l19 ?c19 ?k19 ?a20 ?l20 ?c20 ?k20 ?a21 ?l21 ?c21 ?k21 ?a22 ?l22 ?c22 ?k22 ?a23 ?l23 ?c23 ?k23 ?a24 ?l24 ?c24 ?k24 ?a25 ?l25 ?c25 ?k25 ?a26 ?l26 ?c26 ?k26 ?a27 ?l27 ?c27 ?k27 ?a28 ?l28 ?c28 ?k28 ?a29 ?l29 ?c29 ?k29 ?z0 ?z1 ?z2 ?z3 ?z4 ?z5 ?z6 ?z7 ?z8
    (case gc0 => k_is)
    (case xl0 => k_is)
    (case ini => k_is)
    (case xhn => k_is)
    (case xht => k_is)
    (case xop => k_is)
    (case top => first | rfl | decide +kernel)
    (case gc1 => k_is)
    (case xl1 => k_is)
    (case sa1 => k_is)
    (case ga1 => k_is)
    (case gg1 => k_is)
    (case ha1 => k_is)
    (case kc1 => k_is)
    (case na1_0 => k_is)
    (case gc2 => k_is)
    (case xl2 => k_is)
    (case sa2 => k_is)
    (case ga2 => k_is)
    (case gg2 => k_is)
    (case ha2 => k_is)
    (case kc2 => k_is)
    (case na2_0 => k_is)
    (case gc3 => k_is)
    (case xl3 => k_is)
    (case sa3 => k_is)
    (case ga3 => k_is)
    (case gg3 => k_is)
    (case ha3 => k_is)
    (case kc3 => k_is)
    (case na3_0 => k_is)
    (case gc4 => k_is)
    (case xl4 => k_is)
    (case sa4 => k_is)
    (case ga4 => k_is)
    (case gg4 => k_is)
    (case ha4 => k_is)
    (case kc4 => k_is)
    (case na4_0 => k_is)
    (case gc5 => k_is)
    (case xl5 => k_is)
    (case sa5 => k_is)
    (case ga5 => k_is)
    (case gg5 => k_is)
    (case ha5 => k_is)
    (case kc5 => k_is)
    (case na5_0 => k_is)
    (case na5_1 => k_is)
    (case gc6 => k_is)
    (case xl6 => k_is)
    (case sa6 => k_is)
    (case ga6 => k_is)
    (case gg6 => k_is)
    (case ha6 => k_is)
    (case kc6 => k_is)
    (case na6_0 => k_is)
    (case gc7 => k_is)
    (case xl7 => k_is)
    (case sa7 => k_is)
    (case ga7 => k_is)
    (case gg7 => k_is)
    (case ha7 => k_is)
    (case kc7 => k_is)
    (case na7_0 => k_is)
    (case gc8 => k_is)
    (case xl8 => k_is)
    (case sa8 => k_is)
    (case ga8 => k_is)
    (case gg8 => k_is)
    (case ha8 => k_is)
    (case kc8 => k_is)
    (case na8_0 => k_is)
    (case gc9 => k_is)
    (case xl9 => k_is)
    (case sa9 => k_is)
    (case ga9 => k_is)
    (case gg9 => k_is)
    (case ha9 => k_is)
    (case kc9 => k_is)
    (case na9_0 => k_is)
    (case gc10 => k_is)
    (case xl10 => k_is)
    (case sa10 => k_is)
    (case ga10 => k_is)
    (case gg10 => k_is)
    (case ha10 => k_is)
    (case kc10 => k_is)
    (case na10_0 => k_is)
    (case na10_1 => k_is)
    (case gc11 => k_is)
    (case xl11 => k_is)
    (case sa11 => k_is)
    (case ga11 => k_is)
    (case gg11 => k_is)
    (case ha11 => k_is)
    (case kc11 => k_is)
    (case na11_0 => k_is)
    (case gc12 => k_is)
    (case xl12 => k_is)
    (case sa12 => k_is)
    (case ga12 => k_is)
    (case gg12 => k_is)
    (case ha12 => k_is)
    (case kc12 => k_is)
    (case na12_0 => k_is)
    (case gc13 => k_is)
    (case xl13 => k_is)
    (case sa13 => k_is)
    (case ga13 => k_is)
    (case gg13 => k_is)
    (case ha13 => k_is)
    (case kc13 => k_is)
    (case na13_0 => k_is)
    (case gc14 => k_is)
    (case xl14 => k_is)
    (case sa14 => k_is)
    (case ga14 => k_is)
    (case gg14 => k_is)
    (case ha14 => k_is)
    (case kc14 => k_is)
    (case na14_0 => k_is)
    (case gc15 => k_is)
    (case xl15 => k_is)
    (case sa15 => k_is)
    (case ga15 => k_is)
    (case gg15 => k_is)
    (case ha15 => k_is)
    (case kc15 => k_is)
    (case na15_0 => k_is)
    (case gc16 => k_is)
    (case xl16 => k_is)
    (case sa16 => k_is)
    (case ga16 => k_is)
    (case gg16 => k_is)
    (case ha16 => k_is)
    (case kc16 => k_is)
    (case qx16 => k_exc)
    (case gc17 => k_is)
    (case xl17 => k_is)
    (case sa17 => k_is)
    (case ga17 => k_is)
    (case gg17 => k_is)
    (case ha17 => k_is)
    (case kc17 => k_is)
    (case qx17 => k_exc)
    (case gc18 => k_is)
    (case xl18 => k_is)
    (case sa18 => k_is)
    (case ga18 => k_is)
    (case gg18 => k_is)
    (case ha18 => k_is)
    (case kc18 => k_is)
    (case na18_0 => k_is)
    (case gc19 => k_is)
    (case xl19 => k_is)
    (case sa19 => k_is)
    (case ga19 => k_is)
    (case gg19 => k_is)
    (case ha19 => k_is)
    (case kc19 => k_is)
    (case na19_0 => k_is)
    (case gc20 => k_is)
    (case xl20 => k_is)
    (case sa20 => k_is)
    (case ga20 => k_is)
    (case gg20 => k_is)
    (case ha20 => k_is)
    (case kc20 => k_is)
    (case na20_0 => k_is)
    (case gc21 => k_is)
    (case xl21 => k_is)
    (case sa21 => k_is)
    (case ga21 => k_is)
    (case gg21 => k_is)
    (case ha21 => k_is)
    (case kc21 => k_is)
    (case qx21 => k_exc)
    (case a0 => k_is)
    (case l0 => k_is)
    (case c0 => k_is)
    (case t0 => k_is)
    (case lc0 => k_is)
    (case lv0 => rfl)
    (case lf0 => first | rfl | decide +kernel)
    (case ll0 => k_is)
    (case a1 => k_is)
    (case l1 => k_is)
    (case c1 => k_is)
    (case t1 => k_is)
    (case lc1 => k_is)
    (case lv1 => rfl)
    (case lf1 => first | rfl | decide +kernel)
    (case ll1 => k_is)
    (case a2 => k_is)
    (case l2 => k_is)
    (case c2 => k_is)
    (case t2 => k_is)
    (case lc2 => k_is)
    (case lv2 => rfl)
    (case lf2 => first | rfl | decide +kernel)
    (case ll2 => k_is)
    (case a3 => k_is)
    (case l3 => k_is)
    (case c3 => k_is)
    (case t3 => k_is)
    (case lc3 => k_is)
    (case lv3 => rfl)
    (case lf3 => first | rfl | decide +kernel)
    (case ll3 => k_is)
    (case a4 => k_is)
    (case l4 => k_is)
    (case c4 => k_is)
    (case t4 => k_is)
    (case lc4 => k_is)
    (case lv4 => rfl)
    (case lf4 => first | rfl | decide +kernel)
    (case ll4 => k_is)
    (case a5 => k_is)
    (case l5 => k_is)
    (case c5 => k_is)
    (case t5 => k_is)
    (case lc5 => k_is)
    (case lv5 => rfl)
    (case lf5 => first | rfl | decide +kernel)
    (case ll5 => k_is)
    (case a6 => k_is)
    (case l6 => k_is)
    (case c6 => k_is)
    (case t6 => k_is)
    (case lc6 => k_is)
    (case lv6 => rfl)
    (case lf6 => first | rfl | decide +kernel)
    (case ll6 => k_is)
    (case a7 => k_is)
    (case l7 => k_is)
    (case c7 => k_is)
    (case t7 => k_is)
    (case lc7 => k_is)
    (case lv7 => rfl)
    (case lf7 => first | rfl | decide +kernel)
    (case ll7 => k_is)
    (case a8 => k_is)
    (case l8 => k_is)
    (case c8 => k_is)
    (case t8 => k_is)
    (case lc8 => k_is)
    (case lv8 => rfl)
    (case lf8 => first | rfl | decide +kernel)
    (case ll8 => k_is)
    (case a9 => k_is)
    (case l9 => k_is)
    (case c9 => k_is)
    (case t9 => k_is)
    (case lc9 => k_is)
    (case lv9 => rfl)
    (case lf9 => first | rfl | decide +kernel)
    (case ll9 => k_is)
    (case a10 => k_is)
    (case l10 => k_is)
    (case c10 => k_is)
    (case t10 => k_is)
    (case lc10 => k_is)
    (case lv10 => rfl)
    (case lf10 => first | rfl | decide +kernel)
    (case ll10 => k_is)
    (case a11 => k_is)
    (case l11 => k_is)
    (case c11 => k_is)
    (case t11 => k_is)
    (case lc11 => k_is)
    (case lv11 => rfl)
    (case lf11 => first | rfl | decide +kernel)
    (case ll11 => k_is)
    (case a12 => k_is)
    (case l12 => k_is)
    (case c12 => k_is)
    (case t12 => k_is)
    (case lc12 => k_is)
    (case lv12 => rfl)
    (case lf12 => first | rfl | decide +kernel)
    (case ll12 => k_is)
    (case a13 => k_is)
    (case l13 => k_is)
    (case c13 => k_is)
    (case t13 => k_is)
    (case lc13 => k_is)
    (case lv13 => rfl)
    (case lf13 => first | rfl | decide +kernel)
    (case ll13 => k_is)
    (case a14 => k_is)
    (case l14 => k_is)
    (case c14 => k_is)
    (case t14 => k_is)
    (case lc14 => k_is)
    (case lv14 => rfl)
    (case lf14 => first | rfl | decide +kernel)
    (case ll14 => k_is)
    (case a15 => k_is)
    (case l15 => k_is)
    (case c15 => k_is)
    (case t15 => k_is)
    (case lc15 => k_is)
    (case lv15 => rfl)
    (case lf15 => first | rfl | decide +kernel)
    (case ll15 => k_is)
    (case a16 => k_is)
    (case l16 => k_is)
    (case c16 => k_is)
    (case t16 => k_is)
    (case lc16 => k_is)
    (case lv16 => rfl)
    (case lf16 => first | rfl | decide +kernel)
    (case ll16 => k_is)
    (case a17 => k_is)
    (case l17 => k_is)
    (case c17 => k_is)
    (case t17 => k_is)
    (case lc17 => k_is)
    (case lv17 => rfl)
    (case lf17 => first | rfl | decide +kernel)
    (case ll17 => k_is)
    (case a18 => k_is)
    (case l18 => k_is)
    (case c18 => k_is)
    (case k18 => k_is)
    (case a19 => k_is)
    (case l19 => k_is)
    (case c19 => k_is)
    (case k19 => k_is)
    (case a20 => k_is)
    (case l20 => k_is)
    (case c20 => k_is)
    (case k20 => k_is)
    (case a21 => k_is)
    (case l21 => k_is)
    (case c21 => k_is)
    (case k21 => k_is)
    (case a22 => k_is)
    (case l22 => k_is)
    (case c22 => k_is)
    (case k22 => k_is)
    (case a23 => k_is)
    (case l23 => k_is)
    (case c23 => k_is)
    (case k23 => k_is)
    (case a24 => k_is)
    (case l24 => k_is)
    (case c24 => k_is)
    (case k24 => k_is)
    (case a25 => k_is)
    (case l25 => k_is)
    (case c25 => k_is)
    (case k25 => k_is)
    (case a26 => k_is)
    (case l26 => k_is)
    (case c26 => k_is)
    (case k26 => k_is)
    (case a27 => k_is)
    (case l27 => k_is)
    (case c27 => k_is)
    (case k27 => k_is)
    (case a28 => k_is)
    (case l28 => k_is)
    (case c28 => k_is)
    (case k28 => k_is)
    (case a29 => k_is)
    (case l29 => k_is)
    (case c29 => k_is)
    (case k29 => k_is)
    (case z0 => k_is)
    (case z1 => k_is)
    (case z2 => k_is)
    (case z3 => k_is)
    (case z4 => k_is)
    (case z5 => k_is)
    (case z6 => k_is)
    (case z7 => k_is)
    (case z8 => k_is)
#print axioms PySem.Challenge.cw_waypairs_k00_errors_and_their_fields_holds
