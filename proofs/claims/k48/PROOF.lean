import PyProof.Rows.All
import Wide.All
import OpenK.AllK
import Wide.FinOn
import HandS.ForMost
import HandS.Zip
import HandS.Walk
import HandS.IsInst
import HandS.Evl
import KE.GoesEnum
import PySem.Challenge.RW_waypairs_k48_memos_of_two_ways
set_option Elab.async false
set_option linter.all false
set_option maxRecDepth 100000
set_option maxHeartbeats 4000000
/-! enumerate over a tuple -/
namespace Way
open PySem PySem.Spec PyProof.Rows L2
set_option maxHeartbeats 1000000 in
theorem meets_enumerate_newT {v : Value} {o : Obj} {H : Heap → Prop} (B : Begins v o H) :
    Meets (Builtin.«enumerate.__new__» ⟨[.type "enumerate", v], []⟩) (fun _ R s => H s.heap ∧
      R (.ok (.ret (.ref (s.heap.push o).objs.size))) { s with heap := (s.heap.push o).push { cls := .type "enumerate", data := .fields #[.none, .bool false, .ref s.heap.objs.size, rawInt 0, .none, .none] } }) :=
  .of_wp fun prog w A R s h => by
    obtain ⟨hp, g, d, tk, os⟩ := s; obtain ⟨h1, h⟩ := h
    have hsub := sub_enumerate
    have q1 : ∀ {A' : Around} {E : Value → Shared → Prop} {Q : Value → Shared → Prop}, Q (.ref hp.objs.size) ⟨hp.push o, g, d, tk, os⟩ → wpAny (model prog w) A' (pyIter v) Q E ⟨hp, g, d, tk, os⟩ :=
      fun q => B.iter prog w _ _ ⟨hp, g, d, tk, os⟩ _ h1 q
    wp_walk using q1
    refine wpAny_stack_any fun st => wpAny_pure ?_
    split
    · rename_i c _ _ _ _ _
      cases (c == Value.type "enumerate")
      · wp_walk using q1
        exact ⟨_, rfl, h⟩
      · wp_walk using q1
        exact ⟨_, rfl, h⟩
    · wp_walk using q1
      exact ⟨_, rfl, h⟩
theorem enum_beginsT {prog : Program} {w : World} {A : Around} {E : Value → Shared → Prop} {s : Shared} {v : Value} {o : Obj} {H : Heap → Prop} {Q : Value → Shared → Prop} (B : Begins v o H) (h1 : H s.heap)
    (h : ∀ h', IsEnum h' (s.heap.objs.size + 1) s.heap.objs.size 0 .none → h'.get? s.heap.objs.size = some o → h'.objs.size = s.heap.objs.size + 2 →
      (∀ b o, s.heap.get? b = some o → h'.get? b = some o) → Q (.ref (s.heap.objs.size + 1)) { s with heap := h' }) :
    wpAny (model prog w) A (call (.type "enumerate") [v]) Q E s := by
  refine callType_new F.called_enumerate (by decide) (F.typeCall_enumerate_1 _) (F.newCall_enumerate_1 _) (fun obj => F.args_object_init_2 obj _) F.entry_enumerate_new
    (meets_enumerate_newT B) ⟨h1, ?_⟩
  have hz : (s.heap.push o).objs.size = s.heap.objs.size + 1 := Heap.size_push ..
  show _ ∧ _
  rw [hz]
  have he : IsEnum ((s.heap.push o).push { cls := .type "enumerate", data := .fields #[.none, .bool false, .ref s.heap.objs.size, rawInt 0, .none, .none] }) (s.heap.objs.size + 1) s.heap.objs.size 0 .none := by
    have := Heap.get?_push_size (s.heap.push o) (o := { cls := .type "enumerate", data := .fields #[.none, .bool false, .ref s.heap.objs.size, rawInt 0, .none, .none] }) rfl
    rw [hz] at this; exact this
  refine ⟨⟨_, he, rfl⟩, h _ he (Heap.get?_push_of_some _ (Heap.get?_push_size _ B.free)) (by rw [Heap.size_push, hz]) fun b o x => Heap.get?_push_of_some _ (Heap.get?_push_of_some _ x)⟩

/-- the tuple at a, each item in a new pair with its number -/
def IteT (K : PySem.W.Frag) (a : Addr) : It :=
  ⟨fun i H => ∃ (xs : List V) (x : V), SqT K H a xs ∧ xs[i]? = some x, fun i H v H' => ∃ T x, v = .ref T ∧ H T = none ∧ H' = upd H T (.tup [.int (i : Nat), x]) ∧ ∀ xs, SqT K H a xs → xs[i]? = some x, fun i H => ∃ xs : List V, SqT K H a xs ∧ xs.length ≤ i⟩
theorem apart_tupIter {h : Heap} {a it : Addr} {i : Nat} {its : Array Value} (ht : h.IsTuple a its) (hi : h.IsTupleIter it a i) : a ≠ it := by
  rintro rfl
  obtain ⟨o, ho, hc, _⟩ := ht
  obtain ⟨o', ho', hc', _⟩ := hi
  rw [ho] at ho'
  cases ho'
  rw [hc] at hc'
  exact absurd hc' (by decide)
theorem turn_enumT {P : Program} {w : World} {K : PySem.W.Frag} {elts : List Expr} {kk : Nat} {tpos : Pos} (a e it : Addr) :
    Turn P w K (.Tuple elts kk tpos) (IteT K a) [e, it] e (fun i h => (∃ old, IsEnum h e it ((i : Nat) : Int) old) ∧ h.IsTupleIter it a i ∧ e ≠ it) where
  mem := by simp
  obj := fun i h st b hb => by
    obtain ⟨⟨old, he⟩, ⟨o, ho, hc, hd⟩, _⟩ := st
    have e' : b = e ∨ b = it := by simpa using hb
    rcases e' with z | z
    · rw [z]; exact ⟨_, he, fun v q => nomatch q⟩
    · rw [z]; exact ⟨o, ho, fun v q => by rw [hd] at q; cases q⟩
  keep := fun i h h' st k => let ⟨⟨old, he⟩, hi, hne⟩ := st; ⟨⟨old, k e (by simp) _ he⟩, hi.at fun o q => k it (by simp) o q, hne⟩
  item := by
    intro X hP hw hK hc i pins s σ H E I hf st hg
    subst hP hw hK
    obtain ⟨⟨old, he⟩, hit, hne⟩ := st
    obtain ⟨xs, x, hq, hx⟩ := hg
    obtain ⟨its, rv, p, hz⟩ := I.tuple hq
    have p' : s.heap.IsTuple a its.toArray := p
    obtain ⟨u, hu, ru⟩ := rv.get hx
    have hai := apart_tupIter p' hit
    have hae : a ≠ e := by
      rintro rfl
      obtain ⟨o, ho, hc', _⟩ := p'
      rw [he] at ho
      cases ho
      exact absurd (show Value.type "enumerate" = Value.type "tuple" from hc') (by decide)
    have hel : e < s.heap.objs.size := Heap.lt_size he
    have hil : it < s.heap.objs.size := by obtain ⟨_, q, _⟩ := hit; exact Heap.lt_size q
    have hi : i < its.toArray.size := by
      have q := (List.getElem?_eq_some_iff.mp hu).1
      simpa using q
    refine wpAny_pyNext_enum_itemD (Draws.tuple (A := X.A.in1) (I.ok.hd hc) it a hai its.toArray) he ⟨hit, p'⟩ hi hne (by simp; exact ⟨hne, hae.symm⟩) fun y h' tk hP ho hs' hT hsz hk => ?_
    obtain ⟨hit', _⟩ := hs'
    have ey : y = u := by
      have hP' : its.toArray[i]? = some y := hP
      have hu' : its.toArray[i]? = some u := by simpa using hu
      rw [hu'] at hP'
      exact (Option.some.inj hP').symm
    subst ey
    refine ⟨_, rfl, wpAny_letOwnedTupleGo_enum (s := { s with heap := h', toks := tk + 1 }) ho fun h'' he' sb => ?_⟩
    have hT2 : h''.get? s.heap.objs.size = some { cls := .type "tuple", data := .seq #[.int i tk, y] } := (sb.2 _ (Nat.ne_of_gt hel)).trans hT
    have new : ObjOk X.prog X.w (upd H s.heap.objs.size (.tup [.int (i : Nat), x])) h'' s.heap.objs.size (.tup [.int (i : Nat), x]) :=
      ⟨by show 2 ≤ sizeLine; decide, [.int i tk, y], .cons ⟨_, rfl⟩ (.cons ru .nil), ⟨_, hT2, rfl, _, rfl⟩⟩
    have I1 : Inv X pins σ (upd H s.heap.objs.size (.tup [.int (i : Nat), x])) { s with heap := h'', toks := tk + 1 } :=
      I.turnedNew (ch := [e, it]) (fun b ob hb q => (sb.2 b (fun z => hb (by simp [z]))).trans (hk b ob (fun z => hb (by simp [z])) (fun z => hb (by simp [z])) q)) hf (Nat.le_refl _) new
    refine ⟨.ref s.heap.objs.size, _, I1, rfl, ⟨_, x, rfl, I.hok.fresh (Nat.le_refl _), rfl, fun ys hy => by rw [I.tuple_inj hy hq]; exact hx⟩, ⟨⟨y, ?_⟩, hit'.at fun o q => (sb.2 it (Ne.symm hne)).trans q, hne⟩, fun b hb => ?_⟩
    · have e1 : ((i + 1 : Nat) : Int) = (i : Int) + 1 := by omega
      rw [e1]; exact he'
    · have hb' : b < s.heap.objs.size := by
        have e' : b = e ∨ b = it := by simpa using hb
        rcases e' with z | z
        · rw [z]; exact hel
        · rw [z]; exact hil
      rw [upd_ne (Nat.ne_of_lt hb')]
      exact (hf b hb).1
  done := by
    intro X hP hw hK hc i pins s σ H E I hf st hg
    subst hP hw hK
    obtain ⟨⟨old, he⟩, hit, hne⟩ := st
    obtain ⟨xs, hq, hx⟩ := hg
    obtain ⟨its, rv, p, hz⟩ := I.tuple hq
    have p' : s.heap.IsTuple a its.toArray := p
    obtain ⟨f0, f1, f2, f3, f4, f5⟩ := hf it (by simp)
    have hl := rv.length
    have hT : s.TypeIs (.ref e) "enumerate" := ⟨_, he, rfl⟩
    unfold pyNext
    refine wpAny_bind (wpAny_attempt (wpAny_callSpecial?_slot (name := Str.ofString "__next__") hT F.slot_enumerate_next
      (wpAny_call_entry F.slot_enumerate_next hT F.entry_enumerate_next ?_ (F.args_enumerate_next_1 _))))
    show wpAny _ _ (field (.ref e) 2 >>= _) _ _ _
    refine wpAny_bind (wpAny_field he rfl (x := .ref it) rfl ?_)
    refine wpAny_bind (RZ.nextOf_tuple_end (I.ok.hd hc) hit p' (by simp; omega) fun h' x he' hx' => ?_)
    obtain ⟨o, ho, hc⟩ := hx'
    refine wpAny_bind (wpAny_isInstance (T := "StopIteration") (b := true) ⟨o, ho, hc⟩ isSubtype_stop ?_)
    exact wpAny_pure ⟨rfl, I.turned (t' := s.toks) (fun b o hb q => he' b o hb q) f0 f1 f3 f4 f5⟩
  self := fun A i s Q E st h => let ⟨⟨_, he⟩, _⟩ := st; wpAny_pyIter_enum he h
def iEnumT (K : PySem.W.Frag) (ta : TA) : TI := fun σ H R => ta σ H fun vs H1 => ∃ a xs, vs = [.ref a] ∧ SqT K H1 a xs ∧ R (IteT K a) H1
theorem pi_enumT {X : Cx} {e : Expr} {ta : TA} {p pos tpos : Pos} {elts : List Expr} {kk : Nat} (hg : Gl X "enumerate") (hm : X.mg "enumerate" = none) (ha : PA X [e] ta) (hs : starEach [e] X.env = [(false, eval e X.env)] := by rfl) :
    PI X (.Tuple elts kk tpos) (.Call (.Name "enumerate" p) [e] [] pos) (iEnumT X.K ta) := by
  refine ⟨fun pins s σ H R I h => ?_⟩
  refine Call_ (ld_blt I hg hm boot_enumerate (PyProof.Rows.callWith_type1 (thn (ha.run pos pins s σ H _ I h) fun us s1 ⟨vs, H1, I1, r1, q1⟩ => ?_) hs rfl))
  obtain ⟨a, xs, ex, hq, q⟩ := q1
  subst ex
  cases r1 with
  | cons r rr =>
    cases rr
    cases r
    obtain ⟨its, rv, p', hz⟩ := I1.tuple hq
    have p'' : s1.heap.IsTuple a its.toArray := p'
    refine enum_beginsT (begins_tuple a its.toArray) p'' fun h' he hit hsz hk => wpAny_pyIter_enum he ?_
    have I2 : Inv X pins σ H1 { s1 with heap := h' } := I1.kept (t' := s1.toks) hk
    refine ⟨s1.heap.objs.size + 1, [s1.heap.objs.size + 1, s1.heap.objs.size], _, _, H1, rfl, I2, turn_enumT a (s1.heap.objs.size + 1) s1.heap.objs.size, ⟨⟨.none, he⟩, ⟨_, hit, rfl, rfl⟩, Nat.succ_ne_self _⟩, fun b hb => ?_, q⟩
    have e' : b = s1.heap.objs.size + 1 ∨ b = s1.heap.objs.size := by simpa using hb
    have hle : s1.heap.objs.size ≤ b := by
      rcases e' with z | z
      · rw [z]; exact Nat.le_add_right _ _
      · rw [z]; exact Nat.le_refl _
    exact I1.fpOk hle (I1.hok.fresh hle)
theorem walk_enumT {K : PySem.W.Frag} {a : Addr} {xs : List V} : Walk (IteT K a) xs.length (fun H => SqT K H a xs) (YPair (fun i => some (.int (i : Nat))) (fun i => xs[i]?)) := by
  refine ⟨fun i _ hi q => ⟨xs, xs[i], q, by simp [hi]⟩, fun _ q => ⟨xs, q, Nat.le_refl _⟩, fun i H v H' _ q y => ?_⟩
  obtain ⟨T, x, h1, h2, h3, h4⟩ := y
  exact ⟨T, .int (i : Nat), x, h1, h2, h3, rfl, h4 xs q⟩

/-! f(k = v, ..): keywords alone -/
section
variable {X : Cx} {CX : CXT} {k : Nat} {f : Addr} {fd : FuncData} {ps ks : List Str} {sp : Sp} {x : Str} {kws : List Keyword} {tk : TA} {E : XK} {p pos : Pos} {g : List Value → List Value → List Value} {gV : List V → List V → List V}
theorem pe_callK0 (F : FnOk X.prog X.w X.K X.mg X.base CX k f fd ps sp) (hr : Room k X.A) (hg : Gl X x) (hm : X.mg x = some (.ref f)) (hk : PySem.W.keepIn X.K (.ref f) = true) (hb : KBinds X.K fd ps ks g gV) (hx : Passes CX X E)
    (hkw : PK X kws tk) (hall : (backToKw pos (keywordEach kws X.env)).all (·.1.isSome) = true := by rfl) (hks : (backToKw pos (keywordEach kws X.env)).filterMap (·.1) = ks := by rfl)
    (hdb : (x == ("__debug__" : Str)) = false := by decide)
    (hpl : ((backTo pos (starEach [] X.env)).any (·.1) || (backToKw pos (keywordEach kws X.env)).any (·.1.isNone)) = false := by rfl) :
    PE X (.Call (.Name x p) [] kws pos) (tCallK sp gV E tNil tk) := by
  refine ⟨fun pins s σ H Q I h => ?_⟩
  refine wpAny_Call_Name_kw (ld_glob I hg hm ?_ hdb)
  refine PySem.W.callWith_KW0 (h₀ := X.base) I.ok.mod.kin hk hall ?_ hpl
  refine thn (hkw.run pos pins s σ H _ I h) fun ws s2 ⟨zs, H2, I2, rz, q2⟩ => ⟨I2.kIn, ?_⟩
  rw [hks]
  exact run_fnk (us := []) (vs := []) F hr hb hx I2 .nil rz q2
end

/-! heaps -/
theorem Same.new {H H' : Hp} {p : Addr} {o : HO} (s : Same H H') (h : H p = none) : Same H (upd H' p o) := fun b u e => by
  rw [upd_ne (ne_of_none e h)]
  exact s b u e
theorem Same.new' {H H' : Hp} {p : Addr} {o : HO} (s : Same H H') (h : H' p = none) : Same H (upd H' p o) := Same.new s (s.free h)
theorem Same.tup {K : PySem.W.Frag} {H H' : Hp} {a : Addr} {xs : List V} (e : Same H H') (h : SqT K H a xs) : SqT K H' a xs := by
  rcases h with (h | ⟨o, h⟩) | h
  · exact .inl (.inl (e _ _ h))
  · exact .inl (.inr ⟨o, e _ _ h⟩)
  · exact .inr h
/-- all but the object at s is as it was -/
def Kp (s : Addr) (H H' : Hp) : Prop := ∀ b o, b ≠ s → H b = some o → H' b = some o
theorem Kp.refl (s : Addr) (H : Hp) : Kp s H H := fun _ _ _ h => h
theorem Kp.trans {s : Addr} {H H1 H2 : Hp} (a : Kp s H H1) (b : Kp s H1 H2) : Kp s H H2 := fun c o n h => b c o n (a c o n h)
theorem Kp.of {s : Addr} {H H' : Hp} (a : Same H H') : Kp s H H' := fun c o _ h => a c o h
theorem Kp.set {s : Addr} {H H' : Hp} {o : HO} (a : Kp s H H') : Kp s H (upd H' s o) := fun c u n h => by rw [upd_ne n]; exact a c u n h
theorem Kp.new {s p : Addr} {H H' : Hp} {o : HO} (a : Kp s H H') (n : H p = none) : Kp s H (upd H' p o) := fun c u nc h => by
  rw [upd_ne (ne_of_none h n)]; exact a c u nc h
theorem Kp.free {s p : Addr} {H H' : Hp} (a : Kp s H H') (ns : p ≠ s) (n : H' p = none) : H p = none := by
  cases q : H p with
  | none => rfl
  | some o => rw [a p o ns q] at n; cases n
theorem flat_ints (l : List Int) : (l.map V.int).all flatV = true := by
  induction l with
  | nil => rfl
  | cons a r ih => rw [List.map_cons, List.all_cons, ih]; rfl
theorem flat_strs (l : List Str) : (l.map V.str).all flatV = true := by
  induction l with
  | nil => rfl
  | cons a r ih => rw [List.map_cons, List.all_cons, ih]; rfl
theorem inV_ints (i : Int) (l : List Int) : inV (.int i) (l.map V.int) = l.contains i := by
  induction l with
  | nil => rfl
  | cons a r ih =>
    unfold inV at ih
    unfold inV
    rw [List.map_cons, List.any_cons, ih, List.contains_cons]
    congr 1
    show decide (a = i) = (i == a)
    by_cases h : a = i
    · subst h; simp
    · rw [decide_eq_false h]
      exact (beq_eq_false_iff_ne.mpr (fun q => h q.symm)).symm
/-! evaluation without effect -/
section
open Evl
variable {K : PySem.W.Frag} {H : Hp} {σ : L2.St} {t : TT} {te tl : TE}
theorem el_lcT {a : Addr} {xs : List V} {j : Nat} {vs : List Nat} (f : Nat → Bool) (v : Nat → V) (h : Ev tl σ H (.ref a)) (hx : SqT K H a xs) (hz : xs.length ≤ 40000) (hw : ∀ x, wipe ((wipe σ vs).set j (some x)) vs = wipe σ vs)
    (ht : ∀ (i : Nat) (x : V) H1, Ex H H1 → xs[i]? = some x → EvT t ((wipe σ vs).set j (some x)) H1 (f i)) (he : ∀ (i : Nat) (x : V) H1, Ex H H1 → xs[i]? = some x → f i = true → Ev te ((wipe σ vs).set j (some x)) H1 (v i)) :
    EvL (tLc (iTup K tl) (gName j) t te vs) σ H (given xs.length f v) := fun H0 e Q q => h H0 e _ fun H1 e1 => ⟨a, rfl, ⟨xs, ex_t (e.trans e1) hx⟩, fun Dl hD =>
  lc_tup (xs := xs) (Cw H1 f v Dl) ⟨hD, Ex.new hD, upd_same⟩ (fun i H' _ p => ex_t ((e.trans e1).trans p.2.1) hx) (fun i x H' hi p => ⟨hw x, cw_turn p (by have := (List.getElem?_eq_some_iff.mp hi).1; omega) (ht i x H1 (e.trans e1) hi) (fun hf => he i x H1 (e.trans e1) hi hf)⟩)
    (fun H' p => q Dl H' (fresh_back e1 p.1) (e1.trans p.2.1) p.2.2)⟩
theorem rv_isN {x : V} : RV (fun x y H Q => y = V.non ∧ Q (.bl (decide (x = V.non))) H) x .non H (.bl (decide (x = .non))) := fun H1 _ _ q => ⟨rfl, q H1 (Ex.refl H1)⟩
theorem rv_notN {x : V} : RV (fun x y H Q => y = V.non ∧ Q (.bl (!decide (x = V.non))) H) x .non H (.bl (!decide (x = .non))) := fun H1 _ _ q => ⟨rfl, q H1 (Ex.refl H1)⟩
theorem rc_isi {x c : V} {t u : Value} {b : Bool} (k : ClsV c u) (ty : ∀ H1, Ex H H1 → TyX K H1 x t) (e : PySem.W.kitOne K t u = some b) : RC (rIsi K) [x, c] H (.bl b) := fun H1 e1 _ q => ⟨x, c, t, u, b, rfl, k, ty H1 e1, e, q H1 (Ex.refl H1)⟩
theorem ty_tup {a : Addr} {xs : List V} (h : H a = some (.tup xs)) : ∀ H1, Ex H H1 → TyX K H1 (.ref a) (.type "tuple") := fun H1 e => .base (.tup (e _ _ h))
theorem ty_lst {a : Addr} {xs : List V} (h : H a = some (.lst xs)) : ∀ H1, Ex H H1 → TyX K H1 (.ref a) (.type "list") := fun H1 e => .base (.lst (e _ _ h))
theorem ty_bl {b : Bool} : ∀ H1, Ex H H1 → TyX K H1 (.bl b) (.type "bool") := fun H1 e => .base (.bl b)
theorem ty_int {i : Int} : ∀ H1, Ex H H1 → TyX K H1 (.int i) (.type "int") := fun H1 e => .base (.int i)
theorem ty_str {x : Str} : ∀ H1, Ex H H1 → TyX K H1 (.str x) (.type "str") := fun H1 e => .base (.str x)
theorem ty_non : ∀ H1, Ex H H1 → TyX K H1 .non (.type "NoneType") := fun H1 e => .base .non
theorem rc_lenL {p : Addr} {xs : List V} (h : SqL K H p xs) : RC (fun xs H Q => ∃ p ys, xs = [V.ref p] ∧ (SqL K H p ys ∨ SqT K H p ys) ∧ Q (.int ys.length) H) [.ref p] H (.int (xs.length : Int)) := fun H1 e _ q => ⟨p, xs, rfl, .inl (ex_l e h), q H1 (Ex.refl H1)⟩
theorem rc_lenT {p : Addr} {xs : List V} (h : SqT K H p xs) : RC (fun xs H Q => ∃ p ys, xs = [V.ref p] ∧ (SqL K H p ys ∨ SqT K H p ys) ∧ Q (.int ys.length) H) [.ref p] H (.int (xs.length : Int)) := fun H1 e _ q => ⟨p, xs, rfl, .inr (ex_t e h), q H1 (Ex.refl H1)⟩
theorem rv_eqD {x y : V} {d e : PyData} (h1 : ∀ H1, Ex H H1 → Dp K H1 x d) (h2 : ∀ H1, Ex H H1 → Dp K H1 y e) (s1 : SeqAt.shaped d = true) (s2 : SeqAt.shaped e = true) : RV (rEqD K) x y H (.bl (PyData.eqv d e)) :=
  fun H1 e1 _ q => ⟨d, e, h1 H1 e1, h2 H1 e1, s1, s2, q H1 (Ex.refl H1)⟩
theorem rv_neD {x y : V} {d e : PyData} (h1 : ∀ H1, Ex H H1 → Dp K H1 x d) (h2 : ∀ H1, Ex H H1 → Dp K H1 y e) (s1 : SeqAt.shaped d = true) (s2 : SeqAt.shaped e = true) : RV (rNeD K) x y H (.bl (!PyData.eqv d e)) :=
  fun H1 e1 _ q => ⟨d, e, h1 H1 e1, h2 H1 e1, s1, s2, q H1 (Ex.refl H1)⟩
theorem dp_bls : ∀ l : List Bool, DpAll K H (l.map V.bl) (l.map PyData.bool)
  | [] => .nil
  | b :: r => .cons (.bl b) (dp_bls r)
theorem dp_ints : ∀ l : List Int, DpAll K H (l.map V.int) (l.map PyData.int)
  | [] => .nil
  | b :: r => .cons (.int b) (dp_ints r)
theorem dp_strs : ∀ l : List Str, DpAll K H (l.map V.str) (l.map PyData.str)
  | [] => .nil
  | b :: r => .cons (.str b) (dp_strs r)
theorem dp_tupB {a : Addr} {l : List Bool} (h : H a = some (.tup (l.map V.bl))) : ∀ H1, Ex H H1 → Dp K H1 (.ref a) (.tuple (l.map PyData.bool)) := fun H1 e => .tup (SqT.of (e _ _ h)) (dp_bls l)
theorem dp_nil {a : Addr} (h : H a = some (.lst [])) : ∀ H1, Ex H H1 → Dp K H1 (.ref a) (.list []) := fun H1 e => .lst (SqL.of (e _ _ h)) .nil
end
/-! shapes of data -/
def Shp (n : Nat) (d : PyData) : Prop := d.canLay0 = true ∧ d.depth ≤ n
theorem shp_all {n : Nat} : ∀ {ds : List PyData}, (∀ d ∈ ds, Shp n d) → PyData.canLayAll0 ds = true ∧ PyData.depthAll ds ≤ n
  | [], _ => ⟨rfl, Nat.zero_le _⟩
  | d :: r, h => by
    obtain ⟨h1, h2⟩ := shp_all (ds := r) fun x hx => h x (List.mem_cons_of_mem _ hx)
    obtain ⟨g1, g2⟩ := h d (List.mem_cons_self ..)
    refine ⟨by simp only [PyData.canLayAll0, g1, h1, Bool.and_self], ?_⟩
    simp only [PyData.depthAll]
    omega
theorem shp_tup {n : Nat} {ds : List PyData} (h : ∀ d ∈ ds, Shp n d) : Shp (n + 1) (.tuple ds) := by
  obtain ⟨h1, h2⟩ := shp_all h
  exact ⟨by simpa only [PyData.canLay0] using h1, by simp only [PyData.depth]; omega⟩
theorem shp_lst {n : Nat} {ds : List PyData} (h : ∀ d ∈ ds, Shp n d) : Shp (n + 1) (.list ds) := by
  obtain ⟨h1, h2⟩ := shp_all h
  exact ⟨by simpa only [PyData.canLay0] using h1, by simp only [PyData.depth]; omega⟩
theorem shp_bl {n : Nat} {b : Bool} : Shp n (.bool b) := ⟨by simp only [PyData.canLay0], by simp only [PyData.depth]; omega⟩
theorem shp_int {n : Nat} {b : Int} : Shp n (.int b) := ⟨by simp only [PyData.canLay0], by simp only [PyData.depth]; omega⟩
theorem shp_non {n : Nat} : Shp n .none := ⟨by simp only [PyData.canLay0], by simp only [PyData.depth]; omega⟩
theorem Shp.ok {n : Nat} {d : PyData} (h : Shp n d) (hn : n ≤ 64 := by decide) : SeqAt.shaped d = true := by
  unfold SeqAt.shaped
  rw [h.1, decide_eq_true (Nat.le_trans h.2 hn)]
  rfl
theorem Shp.same {n : Nat} {d : PyData} (h : Shp n d) : PyData.eqv d d = true := SeqAt.eqv_refl d h.1
theorem shp_bls (l : List Bool) : Shp 1 (.tuple (l.map PyData.bool)) := shp_tup fun d hd => by
  obtain ⟨b, _, rfl⟩ := List.mem_map.mp hd
  exact shp_bl
/-! the rules with K apart (for blocks of comprehensions) -/
section
variable {X : Cx}
theorem kk_isi {K : PySem.W.Frag} (h : X.K = K := by rfl) : CallR X (.builtin "isinstance") (rIsi K) := h ▸ call_isi
theorem kk_in {K : PySem.W.Frag} (h : X.K = K := by rfl) : OpR X (compareOp .In) (rIn K false) := h ▸ op_in_seq
theorem kk_notin {K : PySem.W.Frag} (h : X.K = K := by rfl) : OpR X (compareOp .NotIn) (rIn K true) := h ▸ op_notIn_seq
theorem kk_ixL {K : PySem.W.Frag} (h : X.K = K := by rfl) : IxR X (rIxL K) := h ▸ ix_list
theorem kk_ixT {K : PySem.W.Frag} (h : X.K = K := by rfl) : IxR X (rIxT K) := h ▸ ix_tup
theorem kk_eqD {K : PySem.W.Frag} (hu : X.A.units + 64 < cLine) (h : X.K = K := by rfl) : OpR X (compareOp .Eq) (rEqD K) := h ▸ op_eqD hu
theorem kk_neD {K : PySem.W.Frag} (hu : X.A.units + 64 < cLine) (h : X.K = K := by rfl) : OpR X (compareOp .NotEq) (rNeD K) := h ▸ op_neD hu
end
end Way

namespace K48
open PySem L2 Way Evl
def top (i : Nat) : Stmt := PySem.Challenge.pw_waypairs_k48_memos_of_two_ways.main.body.getD i (.Pass ⟨0, 0, 0, 0⟩)
abbrev s_alone : Stmt := top 1
abbrev N_alone : List Str := ["fates", "made", "others", "memos", "after", "at", "fate", "travel"]
abbrev P_alone : List Str := ["fates", "made", "others", "memos"]
theorem sc_alone : FnScope N_alone P_alone (defScope s_alone) := ⟨rfl, rfl, rfl, by decide +kernel, rfl, by decide +kernel, by decide +kernel⟩
abbrev s_together : Stmt := top 2
abbrev N_together : List Str := ["fates", "made", "others", "memos", "same", "after", "at", "fate", "travel"]
abbrev P_together : List Str := ["fates", "made", "others", "memos", "same"]
theorem sc_together : FnScope N_together P_together (defScope s_together) := ⟨rfl, rfl, rfl, by decide +kernel, rfl, by decide +kernel, by decide +kernel⟩
abbrev s_source : Stmt := top 4
abbrev N_source : List Str := ["_law_script", "_law_place", "_law_cell", "_law_size"]
abbrev P_source : List Str := ["_law_script", "_law_place"]
theorem sc_source : FnScope N_source P_source (defScope s_source) := ⟨rfl, rfl, rfl, by decide +kernel, rfl, by decide +kernel, by decide +kernel⟩
abbrev s_draw : Stmt := top 5
abbrev N_draw : List Str := ["_law_source_here", "_law_many", "_law_digit", "_law_turn"]
abbrev P_draw : List Str := ["_law_source_here", "_law_many"]
theorem sc_draw : FnScope N_draw P_draw (defScope s_draw) := ⟨rfl, rfl, rfl, by decide +kernel, rfl, by decide +kernel, by decide +kernel⟩
abbrev s_of : Stmt := top 6
abbrev N_of : List Str := ["_law_source_here", "_law_some"]
abbrev P_of : List Str := ["_law_source_here", "_law_some"]
theorem sc_of : FnScope N_of P_of (defScope s_of) := ⟨rfl, rfl, rfl, by decide +kernel, rfl, by decide +kernel, by decide +kernel⟩
abbrev s_made : Stmt := top 7
abbrev N_made : List Str := ["_law_source_here", "_law_size", "_law_travel"]
abbrev P_made : List Str := ["_law_source_here", "_law_size"]
theorem sc_made : FnScope N_made P_made (defScope s_made) := ⟨rfl, rfl, rfl, by decide +kernel, rfl, by decide +kernel, by decide +kernel⟩
abbrev s_flags : Stmt := top 8
abbrev N_flags : List Str := ["_law_source_here", "_law_size", "_law_travel"]
abbrev P_flags : List Str := ["_law_source_here", "_law_size"]
theorem sc_flags : FnScope N_flags P_flags (defScope s_flags) := ⟨rfl, rfl, rfl, by decide +kernel, rfl, by decide +kernel, by decide +kernel⟩
abbrev s_due : Stmt := top 9
abbrev N_due : List Str := ["_law_own_fates", "_law_own_made", "_law_own_others", "_law_own_memos", "_law_same", "_law_due_here", "_law_at", "_law_fate", "_law_both"]
abbrev P_due : List Str := ["_law_own_fates", "_law_own_made", "_law_own_others", "_law_own_memos", "_law_same"]
theorem sc_due : FnScope N_due P_due (defScope s_due) := ⟨rfl, rfl, rfl, by decide +kernel, rfl, by decide +kernel, by decide +kernel⟩
abbrev s_is_flags : Stmt := top 10
abbrev N_is_flags : List Str := ["_law_told", "_law_size", "_law_flag"]
abbrev P_is_flags : List Str := ["_law_told", "_law_size"]
theorem sc_is_flags : FnScope N_is_flags P_is_flags (defScope s_is_flags) := ⟨rfl, rfl, rfl, by decide +kernel, rfl, by decide +kernel, by decide +kernel⟩
abbrev s_law : Stmt := top 11
abbrev N_law : List Str := ["_law_script", "_law_place", "_law_source_here", "_law_turn", "_law_size", "_law_own_made", "_law_own_others", "_law_own_memos", "_law_same", "_law_own_fates", "_law_travel", "_law_some", "_law_one", "_law_both"]
abbrev P_law : List Str := ["_law_script"]
theorem sc_law : FnScope N_law P_law (defScope s_law) := ⟨rfl, rfl, rfl, by decide +kernel, rfl, by decide +kernel, by decide +kernel⟩
structure Txt (K : PySem.W.Frag) (mg : Str → Option Value) where
  f_alone : Addr
  d_alone : FuncData
  F_alone : Fun K "alone" "alone" s_alone f_alone d_alone
  B_alone : Binds K d_alone P_alone []
  g_alone : mg "alone" = some (.ref f_alone)
  f_together : Addr
  d_together : FuncData
  F_together : Fun K "together" "together" s_together f_together d_together
  B_together : Binds K d_together P_together []
  g_together : mg "together" = some (.ref f_together)
  f_source : Addr
  d_source : FuncData
  F_source : Fun K "_law_source" "_law_source" s_source f_source d_source
  B_source : Binds K d_source P_source []
  g_source : mg "_law_source" = some (.ref f_source)
  f_draw : Addr
  d_draw : FuncData
  F_draw : Fun K "_law_draw" "_law_draw" s_draw f_draw d_draw
  B_draw : Binds K d_draw P_draw []
  g_draw : mg "_law_draw" = some (.ref f_draw)
  f_of : Addr
  d_of : FuncData
  F_of : Fun K "_law_of" "_law_of" s_of f_of d_of
  B_of : Binds K d_of P_of []
  g_of : mg "_law_of" = some (.ref f_of)
  f_made : Addr
  d_made : FuncData
  F_made : Fun K "_law_made" "_law_made" s_made f_made d_made
  B_made : Binds K d_made P_made []
  g_made : mg "_law_made" = some (.ref f_made)
  f_flags : Addr
  d_flags : FuncData
  F_flags : Fun K "_law_flags" "_law_flags" s_flags f_flags d_flags
  B_flags : Binds K d_flags P_flags []
  g_flags : mg "_law_flags" = some (.ref f_flags)
  f_due : Addr
  d_due : FuncData
  F_due : Fun K "_law_due" "_law_due" s_due f_due d_due
  B_due : Binds K d_due P_due []
  g_due : mg "_law_due" = some (.ref f_due)
  f_is_flags : Addr
  d_is_flags : FuncData
  F_is_flags : Fun K "_law_is_flags" "_law_is_flags" s_is_flags f_is_flags d_is_flags
  B_is_flags : Binds K d_is_flags P_is_flags []
  g_is_flags : mg "_law_is_flags" = some (.ref f_is_flags)
  f_law : Addr
  d_law : FuncData
  F_law : Fun K "law" "law" s_law f_law d_law
  B_law : Binds K d_law P_law []
  g_law : mg "law" = some (.ref f_law)
  b_enumerate : mg "enumerate" = none
  b_tuple : mg "tuple" = none
  b_abs : mg "abs" = none
  b_range : mg "range" = none
  b_int : mg "int" = none
  b_max : mg "max" = none
  b_len : mg "len" = none
  b_isinstance : mg "isinstance" = none
  b_min : mg "min" = none
  b_bool : mg "bool" = none
/-! the mathematics -/
def aloneB (fates : List Str) (made others : List Int) (memos : List Bool) (i : Nat) : Bool :=
  made.contains ((i : Int) + 1) && (others.contains ((i : Int) + 1) && (memos.getD i false && decide (V.str (fates.getD i "") = V.str "goes")))
def aloneL (fates : List Str) (made others : List Int) (memos : List Bool) (n : Nat) : List Bool := (List.range n).map (aloneB fates made others memos)
theorem aloneL_succ (fates made others memos n) : aloneL fates made others memos (n + 1) = aloneL fates made others memos n ++ [aloneB fates made others memos n] := by
  unfold aloneL; rw [List.range_succ, List.map_append]; rfl
def togB (fates : List Str) (made others : List Int) (memos same : List Bool) (i : Nat) : Bool :=
  made.contains ((i : Int) + 1) && (others.contains ((i : Int) + 1) && (same.getD i false || (memos.getD i false && decide (V.str (fates.getD i "") = V.str "goes"))))
def togL (fates : List Str) (made others : List Int) (memos same : List Bool) (n : Nat) : List Bool := (List.range n).map (togB fates made others memos same)
theorem togL_succ (fates made others memos same n) : togL fates made others memos same (n + 1) = togL fates made others memos same n ++ [togB fates made others memos same n] := by
  unfold togL; rw [List.range_succ, List.map_append]; rfl
/-! promises -/
/-- a tuple of flags, new -/
def NewFlags (H : Hp) (l : List Bool) (Q : VK) : Prop := ∀ H' p, Same H H' → H p = none → H' p = some (.tup (l.map V.bl)) → Q (.ref p) H'
def spAlone : Sp := fun vs H Q _ => ∃ (fa ma ot me : Addr) (fates : List Str) (made others : List Int) (memos : List Bool),
  vs = [.ref fa, .ref ma, .ref ot, .ref me] ∧ H fa = some (.tup (fates.map V.str)) ∧ H ma = some (.tup (made.map V.int)) ∧ H ot = some (.tup (others.map V.int)) ∧ H me = some (.tup (memos.map V.bl)) ∧
  memos.length = fates.length ∧ fates.length ≤ 1000 ∧ NewFlags H (aloneL fates made others memos fates.length) Q
def spTog : Sp := fun vs H Q _ => ∃ (fa ma ot me sa : Addr) (fates : List Str) (made others : List Int) (memos same : List Bool),
  vs = [.ref fa, .ref ma, .ref ot, .ref me, .ref sa] ∧ H fa = some (.tup (fates.map V.str)) ∧ H ma = some (.tup (made.map V.int)) ∧ H ot = some (.tup (others.map V.int)) ∧ H me = some (.tup (memos.map V.bl)) ∧ H sa = some (.tup (same.map V.bl)) ∧
  memos.length = fates.length ∧ same.length = fates.length ∧ fates.length ≤ 1000 ∧ NewFlags H (togL fates made others memos same fates.length) Q
theorem at_str {l : List Str} {i : Nat} {y : V} (e : (l.map V.str)[i]? = some y) : ∃ b, l[i]? = some b ∧ y = V.str b := by
  rw [List.getElem?_map] at e
  cases q : l[i]? with
  | none => rw [q] at e; cases e
  | some b => rw [q] at e; exact ⟨b, rfl, (Option.some.inj e).symm⟩
theorem at_bl {l : List Bool} {i : Nat} (h : i < l.length) : (l.map V.bl)[i]? = some (V.bl (l.getD i false)) := by
  rw [List.getElem?_map, List.getD_eq_getElem?_getD, List.getElem?_eq_getElem h]
  rfl
section
variable {P : Program} {w : World} {K : PySem.W.Frag} {mg : Str → Option Value} {base : Heap}
theorem ok_alone (T : Txt K mg) : FnOk P w K mg base CX0 1 T.f_alone T.d_alone P_alone spAlone := by
  refine T.F_alone.ok sc_alone (fun vs H Q E h => ?_) (fun cdv A outer s H vs Q E hr h => ?_)
  · obtain ⟨fa, ma, ot, me, fates, made, others, memos, rfl, _⟩ := h
    rfl
  · obtain ⟨fa, ma, ot, me, fates, made, others, memos, rfl, hfa, hma, hot, hme, hl, hlen, k⟩ := h
    refine ⟨_, (pss_cons (ps_set (i := 4) sc_alone.nd rfl (Or.inl rfl) (pe_lst pa_nil))
      (pss_cons (ps_for PassesOwn.never rfl (Way.pi_enumT (by rfl) T.b_enumerate (pa_cons (pv 0) pa_nil)) (pg_tup rfl (pgs_cons (pg_name (i := 5) sc_alone.nd rfl (Or.inl rfl)) (pgs_cons (pg_name (i := 6) sc_alone.nd rfl (Or.inl rfl)) pgs_nil))) (pss_cons (ps_set (i := 7) sc_alone.nd rfl (Or.inl rfl) (pe_op op_add (pv 5) pe_int))
      (pss_one (ps_expr (pe_bm PySem.F.plainAttrs_list PySem.F.slot_list_append PySem.F.type_list_append mt_append (pv 4) (pa_cons (pe_and (pe_cmpR op_in_seq (pv 7) (pv 1) (by rfl)) (pe_and (pe_cmpR op_in_seq (pv 7) (pv 2) (by rfl)) (pe_and (pe_ix ix_tup (pv 3) (pv 5) (fun _ _ => rfl)) (pe_one (pe_cmpR op_eq (pv 6) pe_str (nomark _)))))) pa_nil))))))
      (pss_one (ps_ret (pe_callTy call_tuple_of (by rfl) T.b_tuple (by decide +kernel) (pa_cons (pv 4) pa_nil)))))), ?_⟩
    refine ⟨Nat.zero_le _, fun L hL => ?_⟩
    refine ⟨_, rfl, fa, _, rfl, SqT.of ((Same.new (Same.refl H) hL) _ _ hfa), for_it walk_enumT (fun i σ H' => ∃ v5 v6 v7, σ = [some (.ref fa), some (.ref ma), some (.ref ot), some (.ref me), some (.ref L), v5, v6, v7] ∧ Same H H' ∧ H' L = some (.lst ((aloneL fates made others memos i).map V.bl)))
      ⟨none, none, none, rfl, Same.new (Same.refl H) hL, upd_same⟩ (fun i σ H' _ ⟨_, _, _, _, S, _⟩ => SqT.of (S _ _ hfa)) ?_ ?_⟩
    · rintro i x σ H' H'' hi ⟨v5, v6, v7, rfl, S, hLl⟩ ⟨T', x1, y1, rfl, hT, rfl, e1, e2⟩
      obtain ⟨b, hb, rfl⟩ : ∃ b, fates[i]? = some b ∧ y1 = V.str b := by
        exact at_str e2
      cases e1
      have hi' : i < fates.length := by simpa using hi
      have hTn : H T' = none := S.free hT
      have S2 : Same H (upd H' T' (.tup [.int (i : Nat), .str b])) := Same.new S hTn
      have nTL : L ≠ T' := ne_of_none hLl hT
      have hL2 : (upd H' T' (.tup [.int (i : Nat), .str b])) L = some (.lst ((aloneL fates made others memos i).map V.bl)) := (upd_ne nTL).trans hLl
      refine ⟨T', _, rfl, SqT.of upd_same, rfl, _, _, rfl, _, _, rfl, rfl, ?_⟩
      refine ⟨_, rfl, _, _, rfl, rfl, ?_⟩
      refine s_app (v := .bl (aloneB fates made others memos i)) hL2 (ev_var rfl) (ev_is (ev_andV (ev_op (ev_var rfl) (ev_var rfl) (rv_isT (st_of (S2 _ _ hma)) rfl (flat_ints _))) fun _ => ev_andV (ev_op (ev_var rfl) (ev_var rfl) (rv_isT (st_of (S2 _ _ hot)) rfl (flat_ints _))) fun _ =>
        ev_andV (ev_op (ev_var rfl) (ev_var rfl) (rv_ixT (st_of (S2 _ _ hme)) (atI_nat (at_bl (hl ▸ hi'))))) fun _ => ev_op (ev_var rfl) ev_c (rv_eq rfl)) ?_) (by simp [aloneL]; omega) fun H1 X1 => ⟨_, _, _, rfl, Same.new (S2.trans X1) hL, ?_⟩
      · show V.bl _ = V.bl (aloneB fates made others memos i)
        simp only [inV_ints, aloneB, List.getD_eq_getElem?_getD, hb, Option.getD_some]
      · rw [upd_same, aloneL_succ, List.map_append]
        rfl
    · rintro σ H' ⟨v5, v6, v7, rfl, S, hLl⟩
      refine ⟨_, rfl, L, _, rfl, .inl ⟨SqL.of hLl, fun p hp => ?_⟩⟩
      refine k _ _ (Same.new' S hp) (S.free hp) ?_
      rw [upd_same]
      simp
end
end K48

namespace K48
open PySem L2 Way Evl
def spDue : Sp := fun vs H Q _ => ∃ (fa ma ot me : Addr) (sv : V) (fates : List Str) (made others : List Int) (memos : List Bool),
  vs = [.ref fa, .ref ma, .ref ot, .ref me, sv] ∧ H fa = some (.tup (fates.map V.str)) ∧ H ma = some (.tup (made.map V.int)) ∧ H ot = some (.tup (others.map V.int)) ∧ H me = some (.tup (memos.map V.bl)) ∧
  memos.length = fates.length ∧ fates.length ≤ 1000 ∧
  ((sv = .non ∧ NewFlags H (aloneL fates made others memos fates.length) Q) ∨
   ∃ (sa : Addr) (same : List Bool), sv = .ref sa ∧ H sa = some (.tup (same.map V.bl)) ∧ same.length = fates.length ∧ NewFlags H (togL fates made others memos same fates.length) Q)
section
variable {P : Program} {w : World} {K : PySem.W.Frag} {mg : Str → Option Value} {base : Heap}
theorem ok_together (T : Txt K mg) : FnOk P w K mg base CX0 1 T.f_together T.d_together P_together spTog := by
  refine T.F_together.ok sc_together (fun vs H Q E h => ?_) (fun cdv A outer s H vs Q E hr h => ?_)
  · obtain ⟨fa, ma, ot, me, sa, fates, made, others, memos, same, rfl, _⟩ := h
    rfl
  · obtain ⟨fa, ma, ot, me, sa, fates, made, others, memos, same, rfl, hfa, hma, hot, hme, hsa, hl, hl2, hlen, k⟩ := h
    refine ⟨_, (pss_cons (ps_set (i := 5) sc_together.nd rfl (Or.inl rfl) (pe_lst pa_nil))
      (pss_cons (ps_for PassesOwn.never rfl (Way.pi_enumT (by rfl) T.b_enumerate (pa_cons (pv 0) pa_nil)) (pg_tup rfl (pgs_cons (pg_name (i := 6) sc_together.nd rfl (Or.inl rfl)) (pgs_cons (pg_name (i := 7) sc_together.nd rfl (Or.inl rfl)) pgs_nil))) (pss_cons (ps_set (i := 8) sc_together.nd rfl (Or.inl rfl) (pe_op op_add (pv 6) pe_int))
      (pss_one (ps_if (PW.pt (pw_or (pt_cmpR op_notIn_seq (pv 8) (pv 1) (by rfl)) (pw_or1 (pt_cmpR op_notIn_seq (pv 8) (pv 2) (by rfl))))) (pss_one (ps_expr (pe_bm PySem.F.plainAttrs_list PySem.F.slot_list_append PySem.F.type_list_append mt_append (pv 5) (pa_cons pe_bl pa_nil)))) (pss_one (ps_if (pt_cmpR op_eq (pv 7) pe_str (nomark _)) (pss_one (ps_expr (pe_bm PySem.F.plainAttrs_list PySem.F.slot_list_append PySem.F.type_list_append mt_append (pv 5) (pa_cons (pe_or (pe_ix ix_tup (pv 3) (pv 6) (fun _ _ => rfl)) (pe_one (pe_ix ix_tup (pv 4) (pv 6) (fun _ _ => rfl)))) pa_nil)))) (pss_one (ps_expr (pe_bm PySem.F.plainAttrs_list PySem.F.slot_list_append PySem.F.type_list_append mt_append (pv 5) (pa_cons (pe_ix ix_tup (pv 4) (pv 6) (fun _ _ => rfl)) pa_nil))))))))))
      (pss_one (ps_ret (pe_callTy call_tuple_of (by rfl) T.b_tuple (by decide +kernel) (pa_cons (pv 5) pa_nil)))))), ?_⟩
    refine ⟨Nat.zero_le _, fun L hL => ?_⟩
    refine ⟨_, rfl, fa, _, rfl, SqT.of ((Same.new (Same.refl H) hL) _ _ hfa), for_it walk_enumT (fun i σ H' => ∃ v5 v6 v7, σ = [some (.ref fa), some (.ref ma), some (.ref ot), some (.ref me), some (.ref sa), some (.ref L), v5, v6, v7] ∧ Same H H' ∧ H' L = some (.lst ((togL fates made others memos same i).map V.bl)))
      ⟨none, none, none, rfl, Same.new (Same.refl H) hL, upd_same⟩ (fun i σ H' _ ⟨_, _, _, _, S, _⟩ => SqT.of (S _ _ hfa)) ?_ ?_⟩
    · rintro i x σ H' H'' hi ⟨v5, v6, v7, rfl, S, hLl⟩ ⟨T', x1, y1, rfl, hT, rfl, e1, e2⟩
      obtain ⟨b, hb, rfl⟩ := at_str e2
      cases e1
      have hi' : i < fates.length := by simpa using hi
      have hTn : H T' = none := S.free hT
      have S2 : Same H (upd H' T' (.tup [.int (i : Nat), .str b])) := Same.new S hTn
      have nTL : L ≠ T' := ne_of_none hLl hT
      have hL2 : (upd H' T' (.tup [.int (i : Nat), .str b])) L = some (.lst ((togL fates made others memos same i).map V.bl)) := (upd_ne nTL).trans hLl
      have fin : ∀ H1 : Hp, Ex (upd H' T' (.tup [.int (i : Nat), .str b])) H1 → Same H (upd H1 L (.lst ((togL fates made others memos same i).map V.bl ++ [V.bl (togB fates made others memos same i)]))) ∧
          (upd H1 L (.lst ((togL fates made others memos same i).map V.bl ++ [V.bl (togB fates made others memos same i)]))) L = some (.lst ((togL fates made others memos same (i + 1)).map V.bl)) := fun H1 X1 =>
        ⟨Same.new (S2.trans X1) hL, by rw [upd_same, togL_succ, List.map_append]; rfl⟩
      have hz : ((togL fates made others memos same i).map V.bl).length < 100000 := by simp [togL]; omega
      refine ⟨T', _, rfl, SqT.of upd_same, rfl, _, _, rfl, _, _, rfl, rfl, ?_⟩
      refine ⟨_, rfl, _, _, rfl, rfl, ?_⟩
      refine s_if (et_or (et_test (ev_op (ev_var rfl) (ev_var rfl) (rv_niT (st_of (S2 _ _ hma)) rfl (flat_ints _)))) fun _ => et_test (ev_op (ev_var rfl) (ev_var rfl) (rv_niT (st_of (S2 _ _ hot)) rfl (flat_ints _)))) (fun c H1 X1 => ?_) (fun c H1 X1 => ?_)
      · refine s_app (v := .bl (togB fates made others memos same i)) (X1 _ _ hL2) (ev_var rfl) (ev_is ev_c ?_) hz fun H2 X2 => ⟨_, _, _, rfl, fin _ (Ex.trans X1 X2)⟩
        rw [inV_ints, inV_ints] at c
        congr 1
        unfold togB
        cases q1 : made.contains ((i : Int) + 1) <;> cases q2 : others.contains ((i : Int) + 1) <;> simp_all
      · rw [inV_ints, inV_ints] at c
        have c1 : made.contains ((i : Int) + 1) = true := by
          cases q1 : made.contains ((i : Int) + 1) <;> simp_all
        have c2 : others.contains ((i : Int) + 1) = true := by
          cases q1 : others.contains ((i : Int) + 1) <;> simp_all
        refine s_if (et_test (ev_op (ev_var rfl) ev_c (rv_eq rfl))) (fun d H2 X2 => ?_) (fun d H2 X2 => ?_)
        · refine s_app (v := .bl (togB fates made others memos same i)) (X2 _ _ (X1 _ _ hL2)) (ev_var rfl) (ev_is (ev_orV (ev_op (ev_var rfl) (ev_var rfl) (rv_ixT (st_of (X2 _ _ (X1 _ _ (S2 _ _ hme)))) (atI_nat (at_bl (hl ▸ hi'))))) fun _ => ev_op (ev_var rfl) (ev_var rfl) (rv_ixT (st_of (X2 _ _ (X1 _ _ (S2 _ _ hsa)))) (atI_nat (at_bl (hl2 ▸ hi'))))) ?_) hz
            fun H3 X3 => ⟨_, _, _, rfl, fin _ (Ex.trans X1 (Ex.trans X2 X3))⟩
          congr 1
          unfold togB
          rw [c1, c2, List.getD_eq_getElem?_getD (l := fates), hb, Option.getD_some, d]
          cases memos.getD i false <;> cases same.getD i false <;> rfl
        · refine s_app (v := .bl (togB fates made others memos same i)) (X2 _ _ (X1 _ _ hL2)) (ev_var rfl) (ev_is (ev_op (ev_var rfl) (ev_var rfl) (rv_ixT (st_of (X2 _ _ (X1 _ _ (S2 _ _ hsa)))) (atI_nat (at_bl (hl2 ▸ hi'))))) ?_) hz
            fun H3 X3 => ⟨_, _, _, rfl, fin _ (Ex.trans X1 (Ex.trans X2 X3))⟩
          congr 1
          unfold togB
          rw [c1, c2, List.getD_eq_getElem?_getD (l := fates), hb, Option.getD_some, d]
          cases memos.getD i false <;> cases same.getD i false <;> rfl
    · rintro σ H' ⟨v5, v6, v7, rfl, S, hLl⟩
      refine ⟨_, rfl, L, _, rfl, .inl ⟨SqL.of hLl, fun p hp => ?_⟩⟩
      refine k _ _ (Same.new' S hp) (S.free hp) ?_
      rw [upd_same]
      simp
end
end K48

namespace K48
open PySem L2 Way Evl
section
variable {P : Program} {w : World} {K : PySem.W.Frag} {mg : Str → Option Value} {base : Heap}
theorem rv_isN {x : V} {H : Hp} : RV (fun x y H Q => y = V.non ∧ Q (.bl (decide (x = V.non))) H) x .non H (.bl (decide (x = .non))) := fun H1 _ _ q => ⟨rfl, q H1 (Ex.refl H1)⟩
theorem ok_due (T : Txt K mg) : FnOk P w K mg base CX0 1 T.f_due T.d_due P_due spDue := by
  refine T.F_due.ok sc_due (fun vs H Q E h => ?_) (fun cdv A outer s H vs Q E hr h => ?_)
  · obtain ⟨fa, ma, ot, me, sv, fates, made, others, memos, rfl, _⟩ := h
    rfl
  · obtain ⟨fa, ma, ot, me, sv, fates, made, others, memos, rfl, hfa, hma, hot, hme, hl, hlen, hk⟩ := h
    rcases hk with ⟨rfl, k⟩ | ⟨sa, same, rfl, hsa, hl2, k⟩
    · refine ⟨_, (pss_cons (ps_set (i := 5) sc_due.nd rfl (Or.inl rfl) (pe_lst pa_nil))
      (pss_cons (ps_for PassesOwn.never rfl (Way.pi_enumT (by rfl) T.b_enumerate (pa_cons (pv 0) pa_nil)) (pg_tup rfl (pgs_cons (pg_name (i := 6) sc_due.nd rfl (Or.inl rfl)) (pgs_cons (pg_name (i := 7) sc_due.nd rfl (Or.inl rfl)) pgs_nil))) (pss_cons (ps_set (i := 8) sc_due.nd rfl (Or.inl rfl) (pe_and (pe_cmpR op_in_seq (pe_op op_add (pv 6) pe_int) (pv 1) (by rfl)) (pe_one (pe_cmpR op_in_seq (pe_op op_add (pv 6) pe_int) (pv 2) (by rfl)))))
      (pss_one (ps_if (pt_cmpR op_isN (pv 4) pe_non (nomark _)) (pss_one (ps_expr (pe_bm PySem.F.plainAttrs_list PySem.F.slot_list_append PySem.F.type_list_append mt_append (pv 5) (pa_cons (pe_and (pv 8) (pe_and (pe_ix ix_tup (pv 3) (pv 6) (fun _ _ => rfl)) (pe_one (pe_cmpR op_eq (pv 7) pe_str (nomark _))))) pa_nil)))) (pss_one (ps_expr (pe_bm PySem.F.plainAttrs_list PySem.F.slot_list_append PySem.F.type_list_append mt_append (pv 5) (pa_cons (pe_and (pv 8) (pe_one (pe_or (pe_ix ix_tup (pv 4) (pv 6) (fun _ _ => rfl)) (pe_one (pe_and (pe_ix ix_tup (pv 3) (pv 6) (fun _ _ => rfl)) (pe_one (pe_cmpR op_eq (pv 7) pe_str (nomark _)))))))) pa_nil))))))))
      (pss_one (ps_ret (pe_callTy call_tuple_of (by rfl) T.b_tuple (by decide +kernel) (pa_cons (pv 5) pa_nil)))))), ?_⟩
      refine ⟨Nat.zero_le _, fun L hL => ?_⟩
      refine ⟨_, rfl, fa, _, rfl, SqT.of ((Same.new (Same.refl H) hL) _ _ hfa), for_it walk_enumT (fun i σ H' => ∃ v5 v6 v7, σ = [some (.ref fa), some (.ref ma), some (.ref ot), some (.ref me), some V.non, some (.ref L), v5, v6, v7] ∧ Same H H' ∧ H' L = some (.lst ((aloneL fates made others memos i).map V.bl)))
        ⟨none, none, none, rfl, Same.new (Same.refl H) hL, upd_same⟩ (fun i σ H' _ ⟨_, _, _, _, S, _⟩ => SqT.of (S _ _ hfa)) ?_ ?_⟩
      · rintro i x σ H' H'' hi ⟨v5, v6, v7, rfl, S, hLl⟩ ⟨T', x1, y1, rfl, hT, rfl, e1, e2⟩
        obtain ⟨b, hb, rfl⟩ := at_str e2
        cases e1
        have hi' : i < fates.length := by simpa using hi
        have hTn : H T' = none := S.free hT
        have S2 : Same H (upd H' T' (.tup [.int (i : Nat), .str b])) := Same.new S hTn
        have nTL : L ≠ T' := ne_of_none hLl hT
        have hL2 : (upd H' T' (.tup [.int (i : Nat), .str b])) L = some (.lst ((aloneL fates made others memos i).map V.bl)) := (upd_ne nTL).trans hLl
        have hz : ((aloneL fates made others memos i).map V.bl).length < 100000 := by simp [aloneL, togL]; omega
        refine ⟨T', _, rfl, SqT.of upd_same, rfl, _, _, rfl, _, _, rfl, rfl, ?_⟩
        refine q_asg (ev_andV (ev_op (ev_op (ev_var rfl) ev_c rv_I0) (ev_var rfl) (rv_isT (st_of (S2 _ _ hma)) rfl (flat_ints _))) fun _ => ev_op (ev_op (ev_var rfl) ev_c rv_I0) (ev_var rfl) (rv_isT (st_of (S2 _ _ hot)) rfl (flat_ints _))) fun H0 X0 => ?_
        refine s_if (et_test (ev_op (ev_var rfl) ev_c rv_isN)) (fun d H1 X1 => ?_) (fun d H1 X1 => ?_)
        · refine s_app (v := .bl (aloneB fates made others memos i)) (X1 _ _ (X0 _ _ hL2)) (ev_var rfl) (ev_is (ev_andV (ev_var rfl) fun _ => ev_andV (ev_op (ev_var rfl) (ev_var rfl) (rv_ixT (st_of (X1 _ _ (X0 _ _ (S2 _ _ hme)))) (atI_nat (at_bl (hl ▸ hi'))))) fun _ => ev_op (ev_var rfl) ev_c (rv_eq rfl)) ?_) hz
            fun H2 X2 => ⟨_, _, _, rfl, Same.new (S2.trans (Ex.trans X0 (Ex.trans X1 X2))) hL, by rw [upd_same, aloneL_succ, List.map_append]; rfl⟩
          rw [inV_ints, inV_ints]
          congr 1
          unfold aloneB
          rw [List.getD_eq_getElem?_getD (l := fates), hb, Option.getD_some]
          cases made.contains ((i : Int) + 1) <;> cases others.contains ((i : Int) + 1) <;> rfl
        · cases d
      · rintro σ H' ⟨v5, v6, v7, rfl, S, hLl⟩
        refine ⟨_, rfl, L, _, rfl, .inl ⟨SqL.of hLl, fun p hp => ?_⟩⟩
        refine k _ _ (Same.new' S hp) (S.free hp) ?_
        rw [upd_same]
        simp
    · refine ⟨_, (pss_cons (ps_set (i := 5) sc_due.nd rfl (Or.inl rfl) (pe_lst pa_nil))
      (pss_cons (ps_for PassesOwn.never rfl (Way.pi_enumT (by rfl) T.b_enumerate (pa_cons (pv 0) pa_nil)) (pg_tup rfl (pgs_cons (pg_name (i := 6) sc_due.nd rfl (Or.inl rfl)) (pgs_cons (pg_name (i := 7) sc_due.nd rfl (Or.inl rfl)) pgs_nil))) (pss_cons (ps_set (i := 8) sc_due.nd rfl (Or.inl rfl) (pe_and (pe_cmpR op_in_seq (pe_op op_add (pv 6) pe_int) (pv 1) (by rfl)) (pe_one (pe_cmpR op_in_seq (pe_op op_add (pv 6) pe_int) (pv 2) (by rfl)))))
      (pss_one (ps_if (pt_cmpR op_isN (pv 4) pe_non (nomark _)) (pss_one (ps_expr (pe_bm PySem.F.plainAttrs_list PySem.F.slot_list_append PySem.F.type_list_append mt_append (pv 5) (pa_cons (pe_and (pv 8) (pe_and (pe_ix ix_tup (pv 3) (pv 6) (fun _ _ => rfl)) (pe_one (pe_cmpR op_eq (pv 7) pe_str (nomark _))))) pa_nil)))) (pss_one (ps_expr (pe_bm PySem.F.plainAttrs_list PySem.F.slot_list_append PySem.F.type_list_append mt_append (pv 5) (pa_cons (pe_and (pv 8) (pe_one (pe_or (pe_ix ix_tup (pv 4) (pv 6) (fun _ _ => rfl)) (pe_one (pe_and (pe_ix ix_tup (pv 3) (pv 6) (fun _ _ => rfl)) (pe_one (pe_cmpR op_eq (pv 7) pe_str (nomark _)))))))) pa_nil))))))))
      (pss_one (ps_ret (pe_callTy call_tuple_of (by rfl) T.b_tuple (by decide +kernel) (pa_cons (pv 5) pa_nil)))))), ?_⟩
      refine ⟨Nat.zero_le _, fun L hL => ?_⟩
      refine ⟨_, rfl, fa, _, rfl, SqT.of ((Same.new (Same.refl H) hL) _ _ hfa), for_it walk_enumT (fun i σ H' => ∃ v5 v6 v7, σ = [some (.ref fa), some (.ref ma), some (.ref ot), some (.ref me), some (V.ref sa), some (.ref L), v5, v6, v7] ∧ Same H H' ∧ H' L = some (.lst ((togL fates made others memos same i).map V.bl)))
        ⟨none, none, none, rfl, Same.new (Same.refl H) hL, upd_same⟩ (fun i σ H' _ ⟨_, _, _, _, S, _⟩ => SqT.of (S _ _ hfa)) ?_ ?_⟩
      · rintro i x σ H' H'' hi ⟨v5, v6, v7, rfl, S, hLl⟩ ⟨T', x1, y1, rfl, hT, rfl, e1, e2⟩
        obtain ⟨b, hb, rfl⟩ := at_str e2
        cases e1
        have hi' : i < fates.length := by simpa using hi
        have hTn : H T' = none := S.free hT
        have S2 : Same H (upd H' T' (.tup [.int (i : Nat), .str b])) := Same.new S hTn
        have nTL : L ≠ T' := ne_of_none hLl hT
        have hL2 : (upd H' T' (.tup [.int (i : Nat), .str b])) L = some (.lst ((togL fates made others memos same i).map V.bl)) := (upd_ne nTL).trans hLl
        have hz : ((togL fates made others memos same i).map V.bl).length < 100000 := by simp [aloneL, togL]; omega
        refine ⟨T', _, rfl, SqT.of upd_same, rfl, _, _, rfl, _, _, rfl, rfl, ?_⟩
        refine q_asg (ev_andV (ev_op (ev_op (ev_var rfl) ev_c rv_I0) (ev_var rfl) (rv_isT (st_of (S2 _ _ hma)) rfl (flat_ints _))) fun _ => ev_op (ev_op (ev_var rfl) ev_c rv_I0) (ev_var rfl) (rv_isT (st_of (S2 _ _ hot)) rfl (flat_ints _))) fun H0 X0 => ?_
        refine s_if (et_test (ev_op (ev_var rfl) ev_c rv_isN)) (fun d H1 X1 => ?_) (fun d H1 X1 => ?_)
        · cases d
        · refine s_app (v := .bl (togB fates made others memos same i)) (X1 _ _ (X0 _ _ hL2)) (ev_var rfl) (ev_is (ev_andV (ev_var rfl) fun _ => ev_orV (ev_op (ev_var rfl) (ev_var rfl) (rv_ixT (st_of (X1 _ _ (X0 _ _ (S2 _ _ hsa)))) (atI_nat (at_bl (hl2 ▸ hi'))))) fun _ => ev_andV (ev_op (ev_var rfl) (ev_var rfl) (rv_ixT (st_of (X1 _ _ (X0 _ _ (S2 _ _ hme)))) (atI_nat (at_bl (hl ▸ hi'))))) fun _ => ev_op (ev_var rfl) ev_c (rv_eq rfl)) ?_) hz
            fun H2 X2 => ⟨_, _, _, rfl, Same.new (S2.trans (Ex.trans X0 (Ex.trans X1 X2))) hL, by rw [upd_same, togL_succ, List.map_append]; rfl⟩
          rw [inV_ints, inV_ints]
          congr 1
          unfold togB
          rw [List.getD_eq_getElem?_getD (l := fates), hb, Option.getD_some]
          cases made.contains ((i : Int) + 1) <;> cases others.contains ((i : Int) + 1) <;> rfl
      · rintro σ H' ⟨v5, v6, v7, rfl, S, hLl⟩
        refine ⟨_, rfl, L, _, rfl, .inl ⟨SqL.of hLl, fun p hp => ?_⟩⟩
        refine k _ _ (Same.new' S hp) (S.free hp) ?_
        rw [upd_same]
        simp

end
end K48

namespace K48
open PySem L2 Way Evl
/-- the draws' source at s, drawn from at most k times -/
def Src (H : Hp) (s : Addr) (k : Nat) : Prop := ∃ a b c : Int, H s = some (.lst [.int a, .int b, .int c]) ∧ 0 ≤ b ∧ b < 999983 ∧ 0 ≤ c ∧ c ≤ k
def spFlagsOk : Sp := fun vs H Q _ => ∃ (a : Addr) (l : List Bool) (n : Int), vs = [.ref a, .int n] ∧ H a = some (.tup (l.map V.bl)) ∧ n = (l.length : Int) ∧ l.length ≤ 1000 ∧ ∀ H', Same H H' → Q (.bl true) H'
def spSource (K : PySem.W.Frag) : Sp := fun vs H Q _ => ∃ (a : Addr) (ns : List Int) (p : Nat), vs = [.ref a, .int (p : Int)] ∧ SqL K H a (ns.map V.int) ∧ p ≤ 100 ∧ ∀ H' s, Same H H' → H s = none → Src H' s 0 → Q (.ref s) H'
def spDraw : Sp := fun vs H Q _ => ∃ (s : Addr) (m : Int) (k : Nat), vs = [.ref s, .int m] ∧ Src H s k ∧ k ≤ 10000 ∧ 0 < m ∧ m ≤ 1000 ∧ ∀ H' d, Kp s H H' → Src H' s (k + 1) → 0 ≤ d → d < m → Q (.int d) H'
section
variable {P : Program} {w : World} {K : PySem.W.Frag} {mg : Str → Option Value} {base : Heap}
theorem ok_is_flags (T : Txt K mg) : FnOk P w K mg base CX0 1 T.f_is_flags T.d_is_flags P_is_flags spFlagsOk := by
  refine T.F_is_flags.ok sc_is_flags (fun vs H Q E h => ?_) (fun cdv A outer s H vs Q E hr h => ?_)
  · obtain ⟨a, l, n, rfl, _⟩ := h
    rfl
  · obtain ⟨a, l, n, rfl, ha, rfl, hlen, k⟩ := h
    refine ⟨_, (pss_cons (ps_if (PW.pt (pw_or (pt_not (pt_val (pe_callB call_isi (by rfl) T.b_isinstance (by decide +kernel) (pa_cons (pv 0) (pa_cons (pe_bltn (v := .ty "tuple") (by rfl) T.b_tuple (by decide +kernel) rfl) pa_nil))))) (pw_or1 (pt_cmpR op_ne (pe_callB call_len_seq (by rfl) T.b_len (by decide +kernel) (pa_cons (pv 0) pa_nil)) (pv 1) (nomark _))))) (pss_one (ps_ret pe_bl)) pss_nil)
      (pss_one (ps_ret (pe_cmpR (op_eqD hr.units) (pe_lc (own := [("_law_flag", 2)]) (g := gName 2) (by rfl) sc_is_flags.nd (pi_tup (pv 0)) (blkOk_by (own := [("_law_flag", 2)]) (N := N_is_flags) (sc := defScope s_is_flags) (by decide +kernel)) (fun _ _ _ _ _ => (pg_name (i := 2) sc_is_flags.nd rfl (Or.inl rfl))) (fun _ _ _ _ _ => (pts_one (pt_not (pt_val (pe_callB (Way.kk_isi (K := K)) (by rfl) T.b_isinstance (by decide +kernel) (pa_cons (pv 2) (pa_cons (pe_bltn (v := .ty "bool") (by rfl) T.b_bool (by decide +kernel) rfl) pa_nil))))))) (fun _ _ _ _ _ => (pv 2))) (pe_lst pa_nil) (nomark _))))), ?_⟩
    refine q_when (et_or (et_not (et_B (ev_cb (ea_cons (ev_var rfl) (ea_cons ev_c ea_nil)) (rc_isi (.ty _) (ty_tup ha) (kit_ty (r := true) (by decide +kernel)))))) fun _ =>
      et_test (ev_op (ev_cb (ea_cons (ev_var rfl) ea_nil) (rc_lenT (st_of ha))) (ev_var rfl) (rv_ne rfl))) (fun c H1 X1 => ?_) (fun c H1 X1 => ?_)
    · simp at c
    · have hg : given (l.map V.bl).length (fun _ => false) (fun _ => V.non) = [] := by
        unfold given
        rw [List.filter_eq_nil_iff.mpr (fun _ _ => Bool.false_ne_true)]
        rfl
      refine s_ret (ev_opLL (xs := given (l.map V.bl).length (fun _ => false) (fun _ => V.non)) (ys := []) (z := .bl true) (el_lcT (fun _ => false) (fun _ => V.non) (ev_var rfl) (st_of (X1 _ _ ha)) (by simp; omega) (fun _ => rfl) (fun i x H2 X2 hx => ?_) (fun _ _ _ _ _ q => nomatch q)) (el_lst ea_nil (by decide)) (fun p q H2 hp hq X2 => rv_eqD (dp_nil (hp.trans (congrArg (fun z => some (HO.lst z)) hg))) (dp_nil hq) rfl rfl)) fun H2 X2 => k _ (Ex.trans X1 X2)
      rw [List.getElem?_map] at hx
      cases q : l[i]? with
      | none => rw [q] at hx; cases hx
      | some b =>
        rw [q] at hx
        cases hx
        exact et_not (et_B (ev_cb (ea_cons (ev_var rfl) (ea_cons ev_c ea_nil)) (rc_isi (.ty _) ty_bl (kit_ty (r := true) (by decide +kernel)))))
theorem ok_source (T : Txt K mg) : FnOk P w K mg base CX0 1 T.f_source T.d_source P_source (spSource K) := by
  refine T.F_source.ok sc_source (fun vs H Q E h => ?_) (fun cdv A outer s H vs Q E hr h => ?_)
  · obtain ⟨a, ns, p, rfl, _⟩ := h
    rfl
  · obtain ⟨a, ns, p, rfl, hS, hp, k⟩ := h
    refine ⟨_, (pss_cons (ps_set (i := 2) sc_source.nd rfl (Or.inl rfl) (pe_ifExp (pt_cmpR op_lt (pv 1) (pe_callB call_len_seq (by rfl) T.b_len (by decide +kernel) (pa_cons (pv 0) pa_nil)) (nomark _)) (pe_ix ix_list (pv 0) (pv 1) (fun _ _ => rfl)) pe_int))
      (pss_cons (ps_set (i := 3) sc_source.nd rfl (Or.inl rfl) (pe_callB call_abs (by rfl) T.b_abs (by decide +kernel) (pa_cons (pe_callTy call_int1 (by rfl) T.b_int (by decide +kernel) (pa_cons (pv 2) pa_nil)) pa_nil)))
      (pss_one (ps_ret (pe_lst (pa_cons (pe_ifExp (pt_cmpR op_ge (pv 3) (pe_op op_pow pe_int pe_int) (nomark _)) (pv 3) pe_int) (pa_cons (pe_op op_mod (pe_callTy call_int1 (by rfl) T.b_int (by decide +kernel) (pa_cons (pe_op op_add (pe_op op_add (pe_op op_add (pe_op op_mul (pv 3) pe_int) (pe_op op_mul pe_int (pv 1))) pe_int) (pe_callTy call_int1 (by rfl) T.b_int (by decide +kernel) (pa_cons (pe_cmpR op_lt (pv 2) pe_int (nomark _)) pa_nil))) pa_nil)) pe_int) (pa_cons pe_int pa_nil)))))))), ?_⟩
    refine q_asg (v := .int (ns.getD p 0)) (ev_if (et_test (ev_op (ev_var rfl) (ev_cb (ea_cons (ev_var rfl) ea_nil) (rc_lenL hS)) rv_I0)) (fun c => ev_op (ev_var rfl) (ev_var rfl) (rv_ixL hS (atI_nat ?_))) (fun c => ev_is ev_c ?_)) fun H1 X1 => ?_
    · have c' : p < ns.length := by simpa using c
      rw [List.getElem?_map, List.getD_eq_getElem?_getD, List.getElem?_eq_getElem c']
      rfl
    · have c' : ¬ p < ns.length := by simpa using c
      rw [List.getD_eq_getElem?_getD, List.getElem?_eq_none (by omega)]
      rfl
    · generalize ns.getD p 0 = cell
      refine q_asg (v := .int (if cell < 0 then -cell else cell)) (ev_cb (ea_cons (ev_cb (ea_cons (ev_var rfl) ea_nil) (fun H2 _ _ q => .inl ⟨_, rfl, q H2 (Ex.refl H2)⟩)) ea_nil) (fun H2 _ _ q => ⟨_, rfl, q H2 (Ex.refl H2)⟩)) fun H2 X2 => ?_
      generalize (if cell < 0 then -cell else cell) = size
      have h999 : (0 : Int) < 999983 := by decide
      refine s_retL (el_lst (vs := [.int (if size ≥ 10 ^ 18 then size else 0), .int ((size * 31 + 7919 * (p : Int) + 11 + (if decide (cell < 0) = true then 1 else 0)) % 999983), .int 0]) (ea_cons (ev_if (et_test (ev_op (ev_var rfl) (ev_op ev_c ev_c (rv_I ⟨by decide, by decide, by decide⟩)) rv_I0)) (fun c => ev_is (ev_var rfl) ?_) (fun c => ev_is ev_c ?_))
        (ea_cons (ev_op (ev_cb (ea_cons (ev_op (ev_op (ev_op (ev_op (ev_var rfl) ev_c (rv_I (.inr (by decide)))) (ev_op ev_c (ev_var rfl) (rv_I (.inl (by decide)))) rv_I0) ev_c rv_I0) (ev_cb (ea_cons (ev_op (ev_var rfl) ev_c rv_I0) ea_nil) (fun H3 _ _ q => .inr ⟨_, rfl, q H3 (Ex.refl H3)⟩)) rv_I0) ea_nil) (fun H3 _ _ q => .inl ⟨_, rfl, q H3 (Ex.refl H3)⟩)) ev_c (rv_I h999)) (ea_cons ev_c ea_nil))) (by show 3 ≤ 100000; decide))
        fun q H3 hq X3 h3 => k _ _ (Ex.trans X1 (Ex.trans X2 X3)) (fresh_back (Ex.trans X1 X2) hq) ⟨_, _, _, h3, Int.emod_nonneg _ (by decide), Int.emod_lt_of_pos _ h999, Int.le_refl _, Int.le_refl _⟩
      · have c' : size ≥ 10 ^ 18 := by simpa using c
        rw [if_pos c']
      · have c' : ¬ size ≥ 10 ^ 18 := by simpa using c
        rw [if_neg c']
end
end K48

namespace K48
open PySem L2 Way Evl
def spOf : Sp := fun vs H Q _ => ∃ (s l : Addr) (xs : List V) (k : Nat), vs = [.ref s, .ref l] ∧ Src H s k ∧ k ≤ 10000 ∧ H l = some (.lst xs) ∧ l ≠ s ∧ 0 < xs.length ∧ xs.length ≤ 1000 ∧ ∀ H' v, v ∈ xs → Kp s H H' → Src H' s (k + 1) → Q v H'
def spMade : Sp := fun vs H Q _ => ∃ (s : Addr) (n k : Nat), vs = [.ref s, .int (n : Int)] ∧ Src H s k ∧ k ≤ 5000 ∧ n ≤ 1000 ∧ ∀ H' p (xs : List Int), Kp s H H' → Src H' s (k + n) → H p = none → H' p = some (.tup (xs.map V.int)) → Q (.ref p) H'
def spFlags : Sp := fun vs H Q _ => ∃ (s : Addr) (n k : Nat), vs = [.ref s, .int (n : Int)] ∧ Src H s k ∧ k ≤ 5000 ∧ n ≤ 1000 ∧ ∀ H' p (xs : List Bool), Kp s H H' → Src H' s (k + n) → H p = none → H' p = some (.tup (xs.map V.bl)) → xs.length = n → Q (.ref p) H'
theorem Src.mono {H H' : Hp} {s : Addr} {k : Nat} (h : Src H s k) (e : Ex H H') : Src H' s k := let ⟨a, b, c, h1, r⟩ := h; ⟨a, b, c, e _ _ h1, r⟩
theorem Src.le {H : Hp} {s : Addr} {k j : Nat} (h : Src H s k) (e : k ≤ j) : Src H s j := let ⟨a, b, c, h1, r1, r2, r3, r4⟩ := h; ⟨a, b, c, h1, r1, r2, r3, by omega⟩
theorem Src.upd {H : Hp} {s p : Addr} {k : Nat} {o : HO} (h : Src H s k) (e : p ≠ s) : Src (upd H p o) s k := let ⟨a, b, c, h1, r⟩ := h; ⟨a, b, c, (upd_ne (Ne.symm e)).trans h1, r⟩
theorem Src.ne {H : Hp} {s p : Addr} {k : Nat} (h : Src H s k) (e : H p = none) : p ≠ s := let ⟨_, _, _, h1, _⟩ := h; (ne_of_none h1 e).symm
section
variable {P : Program} {w : World} {K : PySem.W.Frag} {mg : Str → Option Value} {base : Heap}
theorem ok_draw (T : Txt K mg) : FnOk P w K mg base CX0 1 T.f_draw T.d_draw P_draw spDraw := by
  refine T.F_draw.ok sc_draw (fun vs H Q E h => ?_) (fun cdv A outer s H vs Q E hr h => ?_)
  · obtain ⟨s, m, k, rfl, _⟩ := h
    rfl
  · obtain ⟨s, m, k, rfl, ⟨a, b, c, hs, b0, b1, c0, c1⟩, hk, m0, m1, kont⟩ := h
    refine ⟨_, (pss_cons (ps_if (pt_cmpR op_gt (pe_ix ix_list (pv 0) pe_int (fun _ _ => rfl)) pe_int (nomark _)) (pss_cons (ps_set (i := 2) sc_draw.nd rfl (Or.inl rfl) (pe_op op_mod (pe_callTy call_int1 (by rfl) T.b_int (by decide +kernel) (pa_cons (pe_ix ix_list (pv 0) pe_int (fun _ _ => rfl)) pa_nil)) (pv 1)))
      (pss_cons (ps_asg (pe_op op_fdiv (pe_ix ix_list (pv 0) pe_int (fun _ _ => rfl)) (pv 1)) (pg_sub (pv 0) pe_int set_list))
      (pss_one (ps_ret (pv 2))))) pss_nil)
      (pss_cons (ps_asg (pe_op op_add (pe_ix ix_list (pv 0) pe_int (fun _ _ => rfl)) pe_int) (pg_sub (pv 0) pe_int set_list))
      (pss_cons (ps_set (i := 3) sc_draw.nd rfl (Or.inl rfl) (pe_ix ix_list (pv 0) pe_int (fun _ _ => rfl)))
      (pss_cons (ps_asg (pe_op op_mod (pe_callTy call_int1 (by rfl) T.b_int (by decide +kernel) (pa_cons (pe_op op_add (pe_op op_mul (pe_op op_add (pe_ix ix_list (pv 0) pe_int (fun _ _ => rfl)) (pe_op op_mul pe_int (pv 3))) (pe_op op_add (pe_op op_add (pe_ix ix_list (pv 0) pe_int (fun _ _ => rfl)) (pe_op op_mul pe_int (pv 3))) pe_int)) (pe_op op_mul pe_int (pv 3))) pa_nil)) pe_int) (pg_sub (pv 0) pe_int set_list))
      (pss_one (ps_ret (pe_op op_mod (pe_callTy call_int1 (by rfl) T.b_int (by decide +kernel) (pa_cons (pe_op op_fdiv (pe_ix ix_list (pv 0) pe_int (fun _ _ => rfl)) pe_int) pa_nil)) (pv 1)))))))), ?_⟩
    refine q_when (et_test (ev_op (ev_op (ev_var rfl) ev_c (rv_ixL (v := .int a) (sq_of hs) rfl)) ev_c rv_I0)) (fun q H1 X1 => ?_) (fun q H1 X1 => ?_)
    · have h1 := X1 _ _ hs
      refine q_asg (v := .int (a % m)) (ev_op (ev_cb (ea_cons (ev_op (ev_var rfl) ev_c (rv_ixL (v := .int a) (sq_of h1) rfl)) ea_nil) (fun H2 _ _ q => .inl ⟨_, rfl, q H2 (Ex.refl H2)⟩)) (ev_var rfl) (rv_I m0)) fun H2 X2 => ?_
      have h2 := X2 _ _ h1
      refine q_setL (j := 0) h2 (v := .int (a / m)) (ev_op (ev_op (ev_var rfl) ev_c (rv_ixL (v := .int a) (sq_of h2) rfl)) (ev_var rfl) (rv_I ⟨m0, by omega⟩)) (ev_var rfl) ev_c (by show 0 < 3; decide) fun H3 X3 => ?_
      refine s_ret (ev_var rfl) fun H4 X4 => ?_
      exact kont _ _ (Kp.trans (Kp.set (Kp.of (Ex.trans X1 (Ex.trans X2 X3)))) (Kp.of X4)) ⟨_, _, _, X4 _ _ upd_same, b0, b1, c0, by omega⟩ (Int.emod_nonneg _ (by omega)) (Int.emod_lt_of_pos _ m0)
    · have h1 := X1 _ _ hs
      refine q_setL (j := 2) h1 (v := .int (c + 1)) (ev_op (ev_op (ev_var rfl) ev_c (rv_ixL (v := .int c) (sq_of h1) rfl)) ev_c rv_I0) (ev_var rfl) ev_c (by show 2 < 3; decide) fun H2 X2 => ?_
      refine q_asg (v := .int (c + 1)) (ev_op (ev_var rfl) ev_c (rv_ixL (sq_of upd_same) rfl)) fun H3 X3 => ?_
      have h3 := X3 _ _ upd_same
      have h999 : (0 : Int) < 999983 := by decide
      refine q_setL (j := 1) h3 (v := .int (((b + 10007 * (c + 1)) * (b + 313 * (c + 1) + 17) + 5 * (c + 1)) % 999983)) (ev_op (ev_cb (ea_cons (ev_op (ev_op (ev_op (ev_op (ev_var rfl) ev_c (rv_ixL (v := .int b) (sq_of h3) rfl)) (ev_op ev_c (ev_var rfl) (rv_I (.inl (by decide)))) rv_I0) (ev_op (ev_op (ev_op (ev_var rfl) ev_c (rv_ixL (v := .int b) (sq_of h3) rfl)) (ev_op ev_c (ev_var rfl) (rv_I (.inl (by decide)))) rv_I0) ev_c rv_I0) (rv_I (.inl ⟨by omega, by omega⟩))) (ev_op ev_c (ev_var rfl) (rv_I (.inl (by decide)))) rv_I0) ea_nil) (fun H2 _ _ q => .inl ⟨_, rfl, q H2 (Ex.refl H2)⟩)) ev_c (rv_I h999)) (ev_var rfl) ev_c (by show 1 < 3; decide) fun H4 X4 => ?_
      generalize hb' : ((b + 10007 * (c + 1)) * (b + 313 * (c + 1) + 17) + 5 * (c + 1)) % 999983 = b'
      have b0' : 0 ≤ b' := hb' ▸ Int.emod_nonneg _ (by decide)
      have b1' : b' < 999983 := hb' ▸ Int.emod_lt_of_pos _ h999
      refine s_ret (v := .int (b' / 7 % m)) (ev_op (ev_cb (ea_cons (ev_op (ev_op (ev_var rfl) ev_c (rv_ixL (v := .int b') (sq_of upd_same) rfl)) ev_c (rv_I ⟨by decide, by decide⟩)) ea_nil) (fun H2 _ _ q => .inl ⟨_, rfl, q H2 (Ex.refl H2)⟩)) (ev_var rfl) (rv_I m0)) fun H5 X5 => ?_
      exact kont _ _ (Kp.trans (Kp.set (Kp.trans (Kp.set (Kp.of (Ex.trans X1 X2))) (Kp.of (Ex.trans X3 X4)))) (Kp.of X5)) ⟨_, _, _, X5 _ _ upd_same, b0', b1', by omega, by omega⟩ (Int.emod_nonneg _ (by omega)) (Int.emod_lt_of_pos _ m0)
theorem ok_of (T : Txt K mg) : FnOk P w K mg base CX0 2 T.f_of T.d_of P_of spOf := by
  have G_draw := ok_draw (P := P) (w := w) (base := base) T
  refine T.F_of.ok sc_of (fun vs H Q E h => ?_) (fun cdv A outer s H vs Q E hr h => ?_)
  · obtain ⟨s, l, xs, k, rfl, _⟩ := h
    rfl
  · obtain ⟨s, l, xs, k, rfl, hS, hk, hl, ne, x0, x1, kont⟩ := h
    refine ⟨_, (pss_one (ps_ret (pe_ix ix_list (pv 1) (pe_call G_draw hr (by rfl) T.g_draw T.F_draw.kp T.B_draw .nil pass0 (pa_cons (pv 0) (pa_cons (pe_callB call_len_seq (by rfl) T.b_len (by decide +kernel) (pa_cons (pv 1) pa_nil)) pa_nil))) (fun _ _ => rfl)))), ?_⟩
    refine ⟨_, rfl, _, rfl, _, rfl, l, _, rfl, .inl (SqL.of hl), s, _, k, rfl, hS, hk, by omega, by omega, fun H' d K1 S1 d0 d1 => ?_⟩
    have hd : d.toNat < xs.length := by omega
    refine ⟨l, _, _, _, rfl, rfl, SqL.of (K1 _ _ ne hl), at_of (j := d.toNat) (by omega) (List.getElem?_eq_getElem hd), ?_⟩
    exact kont _ _ (List.getElem_mem hd) K1 S1
theorem ok_made (T : Txt K mg) : FnOk P w K mg base CX0 2 T.f_made T.d_made P_made spMade := by
  have G_draw := ok_draw (P := P) (w := w) (base := base) T
  refine T.F_made.ok sc_made (fun vs H Q E h => ?_) (fun cdv A outer s H vs Q E hr h => ?_)
  · obtain ⟨s, n, k, rfl, _⟩ := h
    rfl
  · obtain ⟨s, n, k, rfl, hS, hk, hn, kont⟩ := h
    refine ⟨_, (pss_one (ps_ret (pe_callTy call_tuple_of (by rfl) T.b_tuple (by decide +kernel) (pa_cons (pe_lc (own := [("_law_travel", 2)]) (g := gName 2) (by rfl) sc_made.nd (pi_range2 (by rfl) T.b_range (pa_cons pe_int (pa_cons (pe_op op_add (pv 1) pe_int) pa_nil))) (blkOk_by (own := [("_law_travel", 2)]) (N := N_made) (sc := defScope s_made) (by decide +kernel)) (fun _ _ _ _ _ => (pg_name (i := 2) sc_made.nd rfl (Or.inl rfl))) (fun _ _ _ _ _ => (pts_one (pt_cmpR op_gt (pe_call G_draw hr (by rfl) T.g_draw T.F_draw.kp T.B_draw .nil pass0 (pa_cons (pv 0) (pa_cons pe_int pa_nil))) pe_int (nomark _)))) (fun _ _ _ _ _ => (pv 2))) pa_nil)))), ?_⟩
    refine ⟨_, rfl, _, _, rfl, rfl, 1, (n : Int) + 1, rfl, ⟨by omega, by omega, by omega, by omega⟩, fun D hD => lc_range (lo := 1) (n := ((n : Int) + 1 - 1).toNat) (fun i H' => ∃ xs : List Int, Kp s H H' ∧ Src H' s (k + i) ∧ H' D = some (.lst (xs.map V.int)) ∧ xs.length ≤ i) ?_ ?_ ?_⟩
    · exact ⟨[], Kp.new (Kp.refl s H) hD, hS.upd (hS.ne hD), upd_same, Nat.le_refl _⟩
    · rintro i H' hi ⟨xs, K1, S1, h1, l1⟩
      have nD := hS.ne hD
      refine ⟨rfl, _, rfl, s, 4, k + i, rfl, S1, by omega, by decide, by decide, fun H2 d K2 S2 d0 d1 => ?_⟩
      refine ⟨_, _, rfl, rfl, _, rfl, ?_⟩
      have h2 := K2 _ _ nD h1
      refine ite2 (fun _ => ?_) (fun _ => ?_)
      · refine ⟨_, rfl, _, h2, by simp; exact small1000 (by omega), xs ++ [1 + (i : Int)], Kp.new (Kp.trans K1 K2) hD, S2.upd nD, ?_, ?_⟩
        · rw [upd_same, List.map_append]; rfl
        · simp; omega
      · exact ⟨xs, Kp.trans K1 K2, S2, h2, by omega⟩
    · rintro H' ⟨xs, K1, S1, h1, l1⟩
      have en : ((n : Int) + 1 - 1).toNat = n := by omega
      rw [en] at S1
      have nD := hS.ne hD
      refine ⟨D, _, rfl, .inl ⟨SqL.of h1, fun p hp => ?_⟩⟩
      have np := S1.ne hp
      exact kont _ _ xs (Kp.new K1 (K1.free np hp)) (S1.upd np) (K1.free np hp) upd_same
theorem ok_flags (T : Txt K mg) : FnOk P w K mg base CX0 2 T.f_flags T.d_flags P_flags spFlags := by
  have G_draw := ok_draw (P := P) (w := w) (base := base) T
  refine T.F_flags.ok sc_flags (fun vs H Q E h => ?_) (fun cdv A outer s H vs Q E hr h => ?_)
  · obtain ⟨s, n, k, rfl, _⟩ := h
    rfl
  · obtain ⟨s, n, k, rfl, hS, hk, hn, kont⟩ := h
    refine ⟨_, (pss_one (ps_ret (pe_callTy call_tuple_of (by rfl) T.b_tuple (by decide +kernel) (pa_cons (pe_lc (own := [("_law_travel", 2)]) (g := gName 2) (by rfl) sc_flags.nd (pi_range1 (by rfl) T.b_range (pa_cons (pv 1) pa_nil)) (blkOk_by (own := [("_law_travel", 2)]) (N := N_flags) (sc := defScope s_flags) (by decide +kernel)) (fun _ _ _ _ _ => (pg_name (i := 2) sc_flags.nd rfl (Or.inl rfl))) (fun _ _ _ _ _ => pts_nil) (fun _ _ _ _ _ => (pe_cmpR op_gt (pe_call G_draw hr (by rfl) T.g_draw T.F_draw.kp T.B_draw .nil pass0 (pa_cons (pv 0) (pa_cons pe_int pa_nil))) pe_int (nomark _)))) pa_nil)))), ?_⟩
    refine ⟨_, rfl, (n : Int), rfl, by omega, by omega, fun D hD => lc_range (lo := 0) (n := (n : Int).toNat) (fun i H' => ∃ xs : List Bool, Kp s H H' ∧ Src H' s (k + i) ∧ H' D = some (.lst (xs.map V.bl)) ∧ xs.length = i) ?_ ?_ ?_⟩
    · exact ⟨[], Kp.new (Kp.refl s H) hD, hS.upd (hS.ne hD), upd_same, rfl⟩
    · rintro i H' hi ⟨xs, K1, S1, h1, l1⟩
      have nD := hS.ne hD
      refine ⟨rfl, ?_⟩
      refine ⟨_, rfl, s, 3, k + i, rfl, S1, by omega, by decide, by decide, fun H2 d K2 S2 d0 d1 => ?_⟩
      have h2 := K2 _ _ nD h1
      refine ⟨_, _, rfl, rfl, _, h2, by simp; exact small1000 (by omega), xs ++ [decide (d > 0)], Kp.new (Kp.trans K1 K2) hD, S2.upd nD, ?_, ?_⟩
      · rw [upd_same, List.map_append]; rfl
      · simp; omega
    · rintro H' ⟨xs, K1, S1, h1, l1⟩
      have en : (n : Int).toNat = n := by omega
      rw [en] at S1 l1
      have nD := hS.ne hD
      refine ⟨D, _, rfl, .inl ⟨SqL.of h1, fun p hp => ?_⟩⟩
      have np := S1.ne hp
      exact kont _ _ xs (Kp.new K1 (K1.free np hp)) (S1.upd np) (K1.free np hp) upd_same l1
end
end K48

namespace K48
open PySem L2 Way Evl
def g4 {α : Type} : List α → List α → List α
  | [], [a, b, c, d] => [d, c, b, a]
  | _, _ => []
theorem g4_len {α : Type} {us ws : List α} (h : (g4 us ws).length = 4) : us = [] ∧ ∃ a b c d, ws = [a, b, c, d] := by
  unfold g4 at h
  split at h
  · exact ⟨rfl, _, _, _, _, rfl⟩
  · cases h
theorem g4_rel {vs : List V} {us : List Value} {zs : List V} {ws : List Value} (r : Vals vs us) (z : Vals zs ws) : Vals (g4 vs zs) (g4 us ws) := by
  cases r with
  | cons _ _ => exact .nil
  | nil =>
    cases z with
    | nil => exact .nil
    | cons a z => cases z with
      | nil => exact .nil
      | cons b z => cases z with
        | nil => exact .nil
        | cons c z => cases z with
          | nil => exact .nil
          | cons d z => cases z with
            | nil => exact .cons d (.cons c (.cons b (.cons a .nil)))
            | cons e z => exact .nil
theorem kb_alone {K : PySem.W.Frag} {f : Addr} {fd : FuncData} (F : Fun K "alone" "alone" s_alone f fd) : KBinds K fd P_alone ["memos", "others", "made", "fates"] g4 g4 := by
  obtain ⟨oc, od, kV, doc, pm, an, cdv, ct, osl, rfl, lk, hcd⟩ := F.ex
  refine ⟨fun s us ws _ hl => ?_, g4_rel⟩
  obtain ⟨rfl, a, b, c, d, rfl⟩ := g4_len (show (g4 us ws).length = 4 from hl)
  exact .of_eq rfl
theorem Same.kp {s : Addr} {H H1 H2 : Hp} (a : Same H H1) (n : H s = none) (k : Kp s H1 H2) : Same H H2 := fun b o h => k b o (ne_of_none h n) (a b o h)
def spLaw (K : PySem.W.Frag) : Sp := fun vs H Q _ => ∃ (a : Addr) (ns : List Int), vs = [.ref a] ∧ SqL K H a (ns.map V.int) ∧ ns.length ≤ 63 ∧ ∀ H', Q (.bl true) H'
section
variable {P : Program} {w : World} {K : PySem.W.Frag} {mg : Str → Option Value} {base : Heap}
theorem ok_law (T : Txt K mg) : FnOk P w K mg base CX0 3 T.f_law T.d_law P_law (spLaw K) := by
  have G_draw := ok_draw (P := P) (w := w) (base := base) T
  have G_of := ok_of (P := P) (w := w) (base := base) T
  have G_made := ok_made (P := P) (w := w) (base := base) T
  have G_flags := ok_flags (P := P) (w := w) (base := base) T
  have G_source := ok_source (P := P) (w := w) (base := base) T
  have G_due := ok_due (P := P) (w := w) (base := base) T
  have G_is_flags := ok_is_flags (P := P) (w := w) (base := base) T
  have G_alone := ok_alone (P := P) (w := w) (base := base) T
  have G_together := ok_together (P := P) (w := w) (base := base) T
  have kb_alone_0 := kb_alone T.F_alone
  refine T.F_law.ok sc_law (fun vs H Q E h => ?_) (fun cdv A outer s H vs Q E hr h => ?_)
  · obtain ⟨a, ns, rfl, _⟩ := h
    rfl
  · obtain ⟨a, ns, rfl, hS, hlen, k⟩ := h
    refine ⟨_, (pss_cons (ps_for PassesOwn.never rfl (pi_range1 (by rfl) T.b_range (pa_cons (pe_callB (call_max2 rfl) (by rfl) T.b_max (by decide +kernel) (pa_cons pe_int (pa_cons (pe_callB (call_min2 rfl) (by rfl) T.b_min (by decide +kernel) (pa_cons pe_int (pa_cons (pe_callB call_len_seq (by rfl) T.b_len (by decide +kernel) (pa_cons (pv 0) pa_nil)) pa_nil))) pa_nil))) pa_nil)) (pg_name (i := 1) sc_law.nd rfl (Or.inl rfl)) (pss_cons (ps_set (i := 2) sc_law.nd rfl (Or.inl rfl) (pe_call G_source (hr.mono (by decide)) (by rfl) T.g_source T.F_source.kp T.B_source .nil pass0 (pa_cons (pv 0) (pa_cons (pv 1) pa_nil))))
      (pss_one (ps_for PassesOwn.never rfl (pi_range1 (by rfl) T.b_range (pa_cons pe_int pa_nil)) (pg_name (i := 3) sc_law.nd rfl (Or.inl rfl)) (pss_cons (ps_set (i := 4) sc_law.nd rfl (Or.inl rfl) (pe_op op_add pe_int (pe_call G_draw (hr.mono (by decide)) (by rfl) T.g_draw T.F_draw.kp T.B_draw .nil pass0 (pa_cons (pv 2) (pa_cons pe_int pa_nil)))))
      (pss_cons (ps_par (i := 5) (j := 6) (by rfl) sc_law.nd rfl rfl (by decide) rfl rfl (pa_cons (pe_call G_made hr (by rfl) T.g_made T.F_made.kp T.B_made .nil pass0 (pa_cons (pv 2) (pa_cons (pv 4) pa_nil))) (pa_cons (pe_call G_made hr (by rfl) T.g_made T.F_made.kp T.B_made .nil pass0 (pa_cons (pv 2) (pa_cons (pv 4) pa_nil))) pa_nil)) (by rfl))
      (pss_cons (ps_par (i := 7) (j := 8) (by rfl) sc_law.nd rfl rfl (by decide) rfl rfl (pa_cons (pe_call G_flags hr (by rfl) T.g_flags T.F_flags.kp T.B_flags .nil pass0 (pa_cons (pv 2) (pa_cons (pv 4) pa_nil))) (pa_cons (pe_call G_flags hr (by rfl) T.g_flags T.F_flags.kp T.B_flags .nil pass0 (pa_cons (pv 2) (pa_cons (pv 4) pa_nil))) pa_nil)) (by rfl))
      (pss_cons (ps_set (i := 9) sc_law.nd rfl (Or.inl rfl) (pe_lst pa_nil))
      (pss_cons (ps_for PassesOwn.never rfl (pi_range2 (by rfl) T.b_range (pa_cons pe_int (pa_cons (pe_op op_add (pv 4) pe_int) pa_nil))) (pg_name (i := 10) sc_law.nd rfl (Or.inl rfl)) (pss_cons (ps_set (i := 11) sc_law.nd rfl (Or.inl rfl) (pe_ifExp (PW.pt (pw_or (pt_cmpR op_in_seq (pv 10) (pv 5) (by rfl)) (pw_or1 (pt_cmpR op_in_seq (pv 10) (pv 6) (by rfl))))) (pe_lst (pa_cons pe_str (pa_cons pe_str pa_nil))) (pe_lst (pa_cons pe_str (pa_cons pe_str (pa_cons pe_str (pa_cons pe_str pa_nil)))))))
      (pss_one (ps_expr (pe_bm PySem.F.plainAttrs_list PySem.F.slot_list_append PySem.F.type_list_append mt_append (pv 9) (pa_cons (pe_call G_of hr (by rfl) T.g_of T.F_of.kp T.B_of .nil pass0 (pa_cons (pv 2) (pa_cons (pv 11) pa_nil))) pa_nil))))))
      (pss_cons (ps_set (i := 9) sc_law.nd rfl (Or.inl rfl) (pe_callTy call_tuple_of (by rfl) T.b_tuple (by decide +kernel) (pa_cons (pv 9) pa_nil)))
      (pss_cons (ps_par (i := 12) (j := 13) (by rfl) sc_law.nd rfl rfl (by decide) rfl rfl (pa_cons (pe_call G_alone (hr.mono (by decide)) (by rfl) T.g_alone T.F_alone.kp T.B_alone .nil pass0 (pa_cons (pv 9) (pa_cons (pv 5) (pa_cons (pv 6) (pa_cons (pv 7) pa_nil))))) (pa_cons (pe_call G_together (hr.mono (by decide)) (by rfl) T.g_together T.F_together.kp T.B_together .nil pass0 (pa_cons (pv 9) (pa_cons (pv 5) (pa_cons (pv 6) (pa_cons (pv 7) (pa_cons (pv 8) pa_nil)))))) pa_nil)) (by rfl))
      (pss_cons (ps_if (PW.pt (pw_or (pt_not (pt_val (pe_call G_is_flags (hr.mono (by decide)) (by rfl) T.g_is_flags T.F_is_flags.kp T.B_is_flags .nil pass0 (pa_cons (pv 12) (pa_cons (pv 4) pa_nil))))) (pw_or1 (pt_not (pt_val (pe_call G_is_flags (hr.mono (by decide)) (by rfl) T.g_is_flags T.F_is_flags.kp T.B_is_flags .nil pass0 (pa_cons (pv 13) (pa_cons (pv 4) pa_nil)))))))) (pss_one (ps_ret pe_bl)) pss_nil)
      (pss_cons (ps_if (pt_cmpR (op_neD hr.units) (pv 12) (pe_call G_due (hr.mono (by decide)) (by rfl) T.g_due T.F_due.kp T.B_due .nil pass0 (pa_cons (pv 9) (pa_cons (pv 5) (pa_cons (pv 6) (pa_cons (pv 7) (pa_cons pe_non pa_nil)))))) (nomark _)) (pss_one (ps_ret pe_bl)) pss_nil)
      (pss_cons (ps_if (pt_cmpR (op_neD hr.units) (pv 13) (pe_call G_due (hr.mono (by decide)) (by rfl) T.g_due T.F_due.kp T.B_due .nil pass0 (pa_cons (pv 9) (pa_cons (pv 5) (pa_cons (pv 6) (pa_cons (pv 7) (pa_cons (pv 8) pa_nil)))))) (nomark _)) (pss_one (ps_ret pe_bl)) pss_nil)
      (pss_one (ps_if (pt_cmpR (op_neD hr.units) (Way.pe_callK0 G_alone (hr.mono (by decide)) (by rfl) T.g_alone T.F_alone.kp kb_alone_0 pass0 (pk_cons (pv 7) (pk_cons (pv 6) (pk_cons (pv 5) (pk_cons (pv 9) pk_nil))))) (pv 12) (nomark _)) (pss_one (ps_ret pe_bl)) pss_nil))))))))))))))))
      (pss_one (ps_ret pe_bl))), ?_⟩
    refine q_forR1 (n := if (if (ns.length : Int) < 4 then (ns.length : Int) else 4) > 1 then (if (ns.length : Int) < 4 then (ns.length : Int) else 4) else 1) ?_ ?_ (fun i σ H' => ∃ v1 v2 v3 v4 v5 v6 v7 v8 v9 v10 v11 v12 v13, σ = [some (.ref a), v1, v2, v3, v4, v5, v6, v7, v8, v9, v10, v11, v12, v13] ∧ Same H H')
      (fun H1 X1 => ⟨_, _, _, _, _, _, _, _, _, _, _, _, _, rfl, X1⟩) ?_ ?_
    · refine ea_cons (ev_cb (ea_cons ev_c (ea_cons (ev_cb (ea_cons ev_c (ea_cons (ev_cb (ea_cons (ev_var rfl) ea_nil) (rc_lenL hS)) ea_nil)) (z := .int (if (ns.length : Int) < 4 then (ns.length : Int) else 4)) (fun H2 _ _ q => ⟨4, (ns.length : Int), by simp, q H2 (Ex.refl H2)⟩)) ea_nil)) (fun H2 _ _ q => ⟨_, _, rfl, q H2 (Ex.refl H2)⟩)) ea_nil
    · split <;> split <;> constructor <;> omega
    · rintro place σ H0 hp ⟨v1, v2, v3, v4, v5, v6, v7, v8, v9, v10, v11, v12, v13, rfl, S0⟩
      have hp100 : place ≤ 100 := by
        split at hp <;> split at hp <;> omega
      refine ⟨_, rfl, _, rfl, a, ns, place, rfl, S0.seq hS, hp100, fun H1 s X1 hs src => ?_⟩
      have S1 : Same H H1 := S0.trans X1
      have hsH : H s = none := S0.free hs
      refine s_forR1 (n := 3) (ea_cons ev_c ea_nil) (by decide) (fun j σ H' => ∃ v3 v4 v5 v6 v7 v8 v9 v10 v11 v12 v13, σ = [some (.ref a), some (.int (place : Int)), some (.ref s), v3, v4, v5, v6, v7, v8, v9, v10, v11, v12, v13] ∧ Same H H' ∧ Src H' s (30 * j))
        (fun H2 X2 => ⟨_, _, _, _, _, _, _, _, _, _, _, rfl, S1.trans X2, src.mono X2⟩) ?_ ?_
      · rintro j σ H2 hj ⟨v3, v4, v5, v6, v7, v8, v9, v10, v11, v12, v13, rfl, S2, src2⟩
        refine ⟨_, rfl, s, 4, 30 * j, rfl, src2, by omega, by decide, by decide, fun H3 d K3 src3 d0 d1 => ?_⟩
        refine ⟨_, _, rfl, rfl, ?_⟩
        obtain ⟨n, en, hn4⟩ : ∃ n : Nat, 1 + d = (n : Int) ∧ n ≤ 4 := ⟨(1 + d).toNat, by omega, by omega⟩
        have en' : (fun i j => V.int (i + j)) 1 d = V.int (n : Int) := congrArg V.int en
        rw [en']
        -- made, others
        refine ⟨_, rfl, _, rfl, s, n, _, rfl, src3, by omega, by omega, fun H4 p1 made K4 src4 f1 m1 => ?_⟩
        refine ⟨_, rfl, _, rfl, s, n, _, rfl, src4, by omega, by omega, fun H5 p2 others K5 src5 f2 m2 => ?_⟩
        have n1 := src3.ne f1
        have n2 := src4.ne f2
        refine ⟨_, _, rfl, ?_⟩
        -- memos, same
        refine ⟨_, rfl, _, rfl, s, n, _, rfl, src5, by omega, by omega, fun H6 p3 memos K6 src6 f3 m3 l3 => ?_⟩
        refine ⟨_, rfl, _, rfl, s, n, _, rfl, src6, by omega, by omega, fun H7 p4 same K7 src7 f4 m4 l4 => ?_⟩
        have n3 := src5.ne f3
        have n4 := src6.ne f4
        refine ⟨_, _, rfl, ?_⟩
        have M1 := K7 _ _ n1 (K6 _ _ n1 (K5 _ _ n1 m1))
        have M2 := K7 _ _ n2 (K6 _ _ n2 m2)
        have M3 := K7 _ _ n3 m3
        have K37 : Kp s H2 H7 := Kp.trans K3 (Kp.trans K4 (Kp.trans K5 (Kp.trans K6 K7)))
        have S7 : Same H H7 := Same.kp S2 hsH K37
        -- fates = []
        refine ⟨Nat.zero_le _, fun L hL => ?_⟩
        have nL := src7.ne hL
        refine q_forR2 (lo := 1) (n := (n : Int) + 1) (ea_cons ev_c (ea_cons (ev_op (ev_var rfl) ev_c rv_I0) ea_nil)) ⟨by decide, by decide, by omega, by omega⟩ (fun i σ H' => ∃ v10 v11 v12 v13 fs, σ = [some (.ref a), some (.int (place : Int)), some (.ref s), some (.int (j : Int)), some (.int (n : Int)), some (.ref p1), some (.ref p2), some (.ref p3), some (.ref p4), some (.ref L), v10, v11, v12, v13] ∧ Kp s H7 H' ∧ Src H' s (30 * j + 1 + n + n + n + n + i) ∧ H' L = some (.lst (fs.map V.str)) ∧ fs.length = i)
          (fun H8 X8 => ⟨_, _, _, _, [], rfl, Kp.trans (Kp.new (Kp.refl s H7) hL) (Kp.of X8), (src7.upd nL).mono X8, X8 _ _ upd_same, rfl⟩) ?_ ?_
        · rintro i σ H8 hi ⟨v10, v11, v12, v13, fs, rfl, K8, src8, hLs, lfs⟩
          refine (et_or (et_test (ev_op (ev_var rfl) (ev_var rfl) (rv_isT (st_of (K8 _ _ n1 M1)) rfl (flat_ints _)))) fun _ => et_test (ev_op (ev_var rfl) (ev_var rfl) (rv_isT (st_of (K8 _ _ n2 M2)) rfl (flat_ints _)))) H8 (Ex.refl H8) _ (fun H9 X9 => ?_)
          refine ite2 (fun _ => ?_) (fun _ => ?_)
          all_goals
            refine ⟨by show _ ≤ sizeLine; decide, fun l hl => ?_⟩
            have src9 := src8.mono X9
            have nl := src9.ne hl
            have nlL : L ≠ l := ne_of_none (X9 _ _ hLs) hl
            refine ⟨_, rfl, .inl ⟨rfl, _, SqL.of ((upd_ne nlL).trans (X9 _ _ hLs))⟩, ?_⟩
            refine ⟨_, rfl, _, rfl, s, l, _, _, rfl, src9.upd nl, by omega, upd_same, nl, by decide, by decide, fun H10 v hv K10 src10 => ?_⟩
            have hx : ∃ b, v = V.str b := by
              revert v
              simp
            obtain ⟨b, rfl⟩ := hx
            have hL10 := K10 _ _ nL ((upd_ne nlL).trans (X9 _ _ hLs))
            refine ⟨L, _, _, rfl, rfl, hL10, by simp; exact small1000 (by omega), ?_⟩
            refine ⟨_, _, _, _, fs ++ [b], rfl, Kp.new (Kp.trans K8 (Kp.trans (Kp.new (Kp.of X9) (fresh_back X9 hl)) K10)) hL, ?_, ?_, by simp; omega⟩
            · exact (src10.upd nL).le (by omega)
            · rw [upd_same, List.map_append]; rfl
        · rintro σ H8 ⟨v10, v11, v12, v13, fs, rfl, K8, src8, hLs, lfs⟩
          have lfs' : fs.length = n := by rw [lfs]; omega
          refine ⟨_, rfl, L, _, rfl, .inl ⟨SqL.of hLs, fun p5 f5 => ?_⟩⟩
          have n5 := src8.ne f5
          have M0 : Kp s H7 (upd H8 p5 (.tup (fs.map V.str))) := Kp.new K8 (K8.free n5 f5)
          have N1 := M0 _ _ n1 M1
          have N2 := M0 _ _ n2 M2
          have N3 := M0 _ _ n3 M3
          have N4 := M0 _ _ n4 m4
          have N5 : (upd H8 p5 (.tup (fs.map V.str))) p5 = some (.tup (fs.map V.str)) := upd_same
          have src9 := src8.upd (o := .tup (fs.map V.str)) n5
          have S9 : Same H (upd H8 p5 (.tup (fs.map V.str))) := Same.kp S7 hsH M0
          revert N1 N2 N3 N4 N5 src9 S9
          generalize upd H8 p5 (.tup (fs.map V.str)) = H9
          intro N1 N2 N3 N4 N5 src9 S9
          -- one, both
          refine ⟨_, rfl, _, rfl, _, rfl, _, rfl, p5, p1, p2, p3, fs, made, others, memos, rfl, N5, N1, N2, N3, by omega, by omega, fun H10 p6 X10 f6 m6 => ?_⟩
          refine ⟨_, rfl, _, rfl, _, rfl, _, rfl, _, rfl, p5, p1, p2, p3, p4, fs, made, others, memos, same, rfl, X10 _ _ N5, X10 _ _ N1, X10 _ _ N2, X10 _ _ N3, X10 _ _ N4, by omega, by omega, by omega, fun H11 p7 X11 f7 m7 => ?_⟩
          refine ⟨_, _, rfl, ?_⟩
          have e1 : (aloneL fs made others memos fs.length).length = fs.length := by simp [aloneL]
          have e2 : (togL fs made others memos same fs.length).length = fs.length := by simp [togL]
          -- is_flags twice
          refine ⟨_, rfl, _, rfl, p6, _, _, rfl, X11 _ _ m6, by rw [e1, lfs'], by omega, fun H12 X12 => ?_⟩
          refine ⟨_, rfl, iteF ?_⟩
          refine ⟨_, rfl, _, rfl, p7, _, _, rfl, X12 _ _ m7, by rw [e2, lfs'], by omega, fun H13 X13 => ?_⟩
          refine ⟨_, rfl, iteF ?_⟩
          -- one != due(None)
          have Y13 : Same H9 H13 := X10.trans (X11.trans (X12.trans X13))
          refine ⟨_, rfl, _, rfl, _, rfl, _, rfl, _, rfl, p5, p1, p2, p3, _, fs, made, others, memos, rfl, Y13 _ _ N5, Y13 _ _ N1, Y13 _ _ N2, Y13 _ _ N3, by omega, by omega, .inl ⟨rfl, fun H14 p8 X14 f8 m8 => ?_⟩⟩
          refine ⟨_, _, dp_tupB (X14 _ _ (X13 _ _ (X12 _ _ (X11 _ _ m6)))) _ (Ex.refl _), dp_tupB m8 _ (Ex.refl _), (shp_bls _).ok, (shp_bls _).ok, false, by rw [(shp_bls _).same]; rfl, iteF ?_⟩
          -- both != due(same)
          have Y14 : Same H9 H14 := Y13.trans X14
          refine ⟨_, rfl, _, rfl, _, rfl, _, rfl, _, rfl, _, rfl, p5, p1, p2, p3, _, fs, made, others, memos, rfl, Y14 _ _ N5, Y14 _ _ N1, Y14 _ _ N2, Y14 _ _ N3, by omega, by omega, .inr ⟨p4, same, rfl, Y14 _ _ N4, by omega, fun H15 p9 X15 f9 m9 => ?_⟩⟩
          refine ⟨_, _, dp_tupB (X15 _ _ (X14 _ _ (X13 _ _ (X12 _ _ m7)))) _ (Ex.refl _), dp_tupB m9 _ (Ex.refl _), (shp_bls _).ok, (shp_bls _).ok, false, by rw [(shp_bls _).same]; rfl, iteF ?_⟩
          -- alone by keywords
          have Y15 : Same H9 H15 := Y14.trans X15
          refine ⟨_, rfl, _, rfl, _, rfl, _, rfl, p5, p1, p2, p3, fs, made, others, memos, rfl, Y15 _ _ N5, Y15 _ _ N1, Y15 _ _ N2, Y15 _ _ N3, by omega, by omega, fun H16 p10 X16 f10 m10 => ?_⟩
          refine ⟨_, rfl, _, _, dp_tupB m10 _ (Ex.refl _), dp_tupB (X16 _ _ (X15 _ _ (X14 _ _ (X13 _ _ (X12 _ _ (X11 _ _ m6)))))) _ (Ex.refl _), (shp_bls _).ok, (shp_bls _).ok, false, by rw [(shp_bls _).same]; rfl, iteF ?_⟩
          refine ⟨_, _, _, _, _, _, _, _, _, _, _, rfl, S9.trans (Y15.trans X16), ?_⟩
          exact (src9.mono (Y15.trans X16)).le (by omega)
      · rintro σ H2 ⟨v3, v4, v5, v6, v7, v8, v9, v10, v11, v12, v13, rfl, S2, src2⟩
        exact ⟨_, _, _, _, _, _, _, _, _, _, _, _, _, rfl, S2⟩
    · rintro σ H' ⟨v1, v2, v3, v4, v5, v6, v7, v8, v9, v10, v11, v12, v13, rfl, S⟩
      exact k _
end
end K48

namespace K48
open PySem L2
theorem all_mk {l : PySem.W.OpenLaw} {w : World} {K : PySem.W.Frag} {h : Heap} {mg : Str → Option Value} {fa f0 f1 f2 f3 f4 f5 f6 f7 f8 f9 : Addr} (X : K.In h) (G : h.Ns mainGlobals mg) (hfa : mg "law" = some (.ref fa))
    {od0 an0 od1 an1 od2 an2 od3 an3 od4 an4 od5 an5 od6 an6 od7 an7 od8 an8 od9 an9 : Option Addr} {sl0 sl1 sl2 sl3 sl4 sl5 sl6 sl7 sl8 sl9 : Array (Option Value)} {oc0 kV0 dc0 pm0 cd0 ct0 oc1 kV1 dc1 pm1 cd1 ct1 oc2 kV2 dc2 pm2 cd2 ct2 oc3 kV3 dc3 pm3 cd3 ct3 oc4 kV4 dc4 pm4 cd4 ct4 oc5 kV5 dc5 pm5 cd5 ct5 oc6 kV6 dc6 pm6 cd6 ct6 oc7 kV7 dc7 pm7 cd7 ct7 oc8 kV8 dc8 pm8 cd8 ct8 oc9 kV9 dc9 pm9 cd9 ct9 : Value}
    (a0 : PySem.W.nsIn K mainGlobals "alone" = some (some (.ref f0))) (l0 : K.lookup f0 = some ⟨oc0, od0, .func (PySem.W.fnOf "alone" "alone" (defArgs s_alone) (defBody s_alone) (defScope s_alone) .none kV0 dc0 pm0 an0 cd0 ct0), sl0⟩) (c0 : PySem.W.codeIn K cd0 "alone" = true) (k0 : PySem.W.keepIn K (.ref f0) = true)
    (a1 : PySem.W.nsIn K mainGlobals "together" = some (some (.ref f1))) (l1 : K.lookup f1 = some ⟨oc1, od1, .func (PySem.W.fnOf "together" "together" (defArgs s_together) (defBody s_together) (defScope s_together) .none kV1 dc1 pm1 an1 cd1 ct1), sl1⟩) (c1 : PySem.W.codeIn K cd1 "together" = true) (k1 : PySem.W.keepIn K (.ref f1) = true)
    (a2 : PySem.W.nsIn K mainGlobals "_law_source" = some (some (.ref f2))) (l2 : K.lookup f2 = some ⟨oc2, od2, .func (PySem.W.fnOf "_law_source" "_law_source" (defArgs s_source) (defBody s_source) (defScope s_source) .none kV2 dc2 pm2 an2 cd2 ct2), sl2⟩) (c2 : PySem.W.codeIn K cd2 "_law_source" = true) (k2 : PySem.W.keepIn K (.ref f2) = true)
    (a3 : PySem.W.nsIn K mainGlobals "_law_draw" = some (some (.ref f3))) (l3 : K.lookup f3 = some ⟨oc3, od3, .func (PySem.W.fnOf "_law_draw" "_law_draw" (defArgs s_draw) (defBody s_draw) (defScope s_draw) .none kV3 dc3 pm3 an3 cd3 ct3), sl3⟩) (c3 : PySem.W.codeIn K cd3 "_law_draw" = true) (k3 : PySem.W.keepIn K (.ref f3) = true)
    (a4 : PySem.W.nsIn K mainGlobals "_law_of" = some (some (.ref f4))) (l4 : K.lookup f4 = some ⟨oc4, od4, .func (PySem.W.fnOf "_law_of" "_law_of" (defArgs s_of) (defBody s_of) (defScope s_of) .none kV4 dc4 pm4 an4 cd4 ct4), sl4⟩) (c4 : PySem.W.codeIn K cd4 "_law_of" = true) (k4 : PySem.W.keepIn K (.ref f4) = true)
    (a5 : PySem.W.nsIn K mainGlobals "_law_made" = some (some (.ref f5))) (l5 : K.lookup f5 = some ⟨oc5, od5, .func (PySem.W.fnOf "_law_made" "_law_made" (defArgs s_made) (defBody s_made) (defScope s_made) .none kV5 dc5 pm5 an5 cd5 ct5), sl5⟩) (c5 : PySem.W.codeIn K cd5 "_law_made" = true) (k5 : PySem.W.keepIn K (.ref f5) = true)
    (a6 : PySem.W.nsIn K mainGlobals "_law_flags" = some (some (.ref f6))) (l6 : K.lookup f6 = some ⟨oc6, od6, .func (PySem.W.fnOf "_law_flags" "_law_flags" (defArgs s_flags) (defBody s_flags) (defScope s_flags) .none kV6 dc6 pm6 an6 cd6 ct6), sl6⟩) (c6 : PySem.W.codeIn K cd6 "_law_flags" = true) (k6 : PySem.W.keepIn K (.ref f6) = true)
    (a7 : PySem.W.nsIn K mainGlobals "_law_due" = some (some (.ref f7))) (l7 : K.lookup f7 = some ⟨oc7, od7, .func (PySem.W.fnOf "_law_due" "_law_due" (defArgs s_due) (defBody s_due) (defScope s_due) .none kV7 dc7 pm7 an7 cd7 ct7), sl7⟩) (c7 : PySem.W.codeIn K cd7 "_law_due" = true) (k7 : PySem.W.keepIn K (.ref f7) = true)
    (a8 : PySem.W.nsIn K mainGlobals "_law_is_flags" = some (some (.ref f8))) (l8 : K.lookup f8 = some ⟨oc8, od8, .func (PySem.W.fnOf "_law_is_flags" "_law_is_flags" (defArgs s_is_flags) (defBody s_is_flags) (defScope s_is_flags) .none kV8 dc8 pm8 an8 cd8 ct8), sl8⟩) (c8 : PySem.W.codeIn K cd8 "_law_is_flags" = true) (k8 : PySem.W.keepIn K (.ref f8) = true)
    (a9 : PySem.W.nsIn K mainGlobals "law" = some (some (.ref f9))) (l9 : K.lookup f9 = some ⟨oc9, od9, .func (PySem.W.fnOf "law" "law" (defArgs s_law) (defBody s_law) (defScope s_law) .none kV9 dc9 pm9 an9 cd9 ct9), sl9⟩) (c9 : PySem.W.codeIn K cd9 "law" = true) (k9 : PySem.W.keepIn K (.ref f9) = true)
    (z0 : PySem.W.nsIn K mainGlobals "enumerate" = some none)
    (z1 : PySem.W.nsIn K mainGlobals "tuple" = some none)
    (z2 : PySem.W.nsIn K mainGlobals "abs" = some none)
    (z3 : PySem.W.nsIn K mainGlobals "range" = some none)
    (z4 : PySem.W.nsIn K mainGlobals "int" = some none)
    (z5 : PySem.W.nsIn K mainGlobals "max" = some none)
    (z6 : PySem.W.nsIn K mainGlobals "len" = some none)
    (z7 : PySem.W.nsIn K mainGlobals "isinstance" = some none)
    (z8 : PySem.W.nsIn K mainGlobals "min" = some none)
    (z9 : PySem.W.nsIn K mainGlobals "bool" = some none)
    : ∃ fd : FuncData, (∀ (s : Shared) (v : Value), BindsTo s fd ⟨[v], []⟩ [("_law_script", v)]) ∧ ∀ base : Heap, K.In base → base.Ns mainGlobals mg → FnOk l.prog w K mg base CX0 3 fa fd ["_law_script"] (spLaw K) := by
  have e := hfa.symm.trans (PySem.W.mg_of X G a9)
  cases e
  let T : Txt K mg := {
    f_alone := f0, d_alone := _, F_alone := fun_mk (st := s_alone) l0 c0 k0, B_alone := (fun_mk (st := s_alone) l0 c0 k0).binds (ps := P_alone) (fun _ _ _ _ _ _ us hl => match us, hl with | [_, _, _, _], _ => rfl), g_alone := PySem.W.mg_of X G a0,
    f_together := f1, d_together := _, F_together := fun_mk (st := s_together) l1 c1 k1, B_together := (fun_mk (st := s_together) l1 c1 k1).binds (ps := P_together) (fun _ _ _ _ _ _ us hl => match us, hl with | [_, _, _, _, _], _ => rfl), g_together := PySem.W.mg_of X G a1,
    f_source := f2, d_source := _, F_source := fun_mk (st := s_source) l2 c2 k2, B_source := (fun_mk (st := s_source) l2 c2 k2).binds (ps := P_source) (fun _ _ _ _ _ _ us hl => match us, hl with | [_, _], _ => rfl), g_source := PySem.W.mg_of X G a2,
    f_draw := f3, d_draw := _, F_draw := fun_mk (st := s_draw) l3 c3 k3, B_draw := (fun_mk (st := s_draw) l3 c3 k3).binds (ps := P_draw) (fun _ _ _ _ _ _ us hl => match us, hl with | [_, _], _ => rfl), g_draw := PySem.W.mg_of X G a3,
    f_of := f4, d_of := _, F_of := fun_mk (st := s_of) l4 c4 k4, B_of := (fun_mk (st := s_of) l4 c4 k4).binds (ps := P_of) (fun _ _ _ _ _ _ us hl => match us, hl with | [_, _], _ => rfl), g_of := PySem.W.mg_of X G a4,
    f_made := f5, d_made := _, F_made := fun_mk (st := s_made) l5 c5 k5, B_made := (fun_mk (st := s_made) l5 c5 k5).binds (ps := P_made) (fun _ _ _ _ _ _ us hl => match us, hl with | [_, _], _ => rfl), g_made := PySem.W.mg_of X G a5,
    f_flags := f6, d_flags := _, F_flags := fun_mk (st := s_flags) l6 c6 k6, B_flags := (fun_mk (st := s_flags) l6 c6 k6).binds (ps := P_flags) (fun _ _ _ _ _ _ us hl => match us, hl with | [_, _], _ => rfl), g_flags := PySem.W.mg_of X G a6,
    f_due := f7, d_due := _, F_due := fun_mk (st := s_due) l7 c7 k7, B_due := (fun_mk (st := s_due) l7 c7 k7).binds (ps := P_due) (fun _ _ _ _ _ _ us hl => match us, hl with | [_, _, _, _, _], _ => rfl), g_due := PySem.W.mg_of X G a7,
    f_is_flags := f8, d_is_flags := _, F_is_flags := fun_mk (st := s_is_flags) l8 c8 k8, B_is_flags := (fun_mk (st := s_is_flags) l8 c8 k8).binds (ps := P_is_flags) (fun _ _ _ _ _ _ us hl => match us, hl with | [_, _], _ => rfl), g_is_flags := PySem.W.mg_of X G a8,
    f_law := fa, d_law := _, F_law := fun_mk (st := s_law) l9 c9 k9, B_law := (fun_mk (st := s_law) l9 c9 k9).binds (ps := P_law) (fun _ _ _ _ _ _ us hl => match us, hl with | [_], _ => rfl), g_law := PySem.W.mg_of X G a9,
    b_enumerate := PySem.W.mg_none_of X G z0,
    b_tuple := PySem.W.mg_none_of X G z1,
    b_abs := PySem.W.mg_none_of X G z2,
    b_range := PySem.W.mg_none_of X G z3,
    b_int := PySem.W.mg_none_of X G z4,
    b_max := PySem.W.mg_none_of X G z5,
    b_len := PySem.W.mg_none_of X G z6,
    b_isinstance := PySem.W.mg_none_of X G z7,
    b_min := PySem.W.mg_none_of X G z8,
    b_bool := PySem.W.mg_none_of X G z9 }
  exact ⟨PySem.W.fnOf "law" "law" (defArgs s_law) (defBody s_law) (defScope s_law) .none kV9 dc9 pm9 an9 cd9 ct9, fun s v => .of_eq rfl, fun base _ _ => ok_law T⟩
theorem walk {l : PySem.W.OpenLaw} {q : Program} {loose : List Str} {XP : (Str → Option Value) → Heap → Prop} {YP : World → Heap → Prop} {d : DefRec} {K : Params → PySem.W.Frag} (hn : l.most = some 63) (hdf : d.params.defaults = [])
    (hY : ∀ (w : World) (h : Heap), YP w h → (K w.params).In h)
    (F : ∀ (w : World) (mg : Str → Option Value) (fa : Addr) (h : Heap), (K w.params).In h → h.Ns mainGlobals mg → mg d.name = some (.ref fa) →
      ∃ fd : FuncData, (∀ (s : Shared) (u : Value), BindsTo s fd ⟨[u], []⟩ [("_law_script", u)]) ∧ ∀ base : Heap, (K w.params).In base → base.Ns mainGlobals mg → FnOk l.prog w (K w.params) mg base CX0 3 fa fd ["_law_script"] (spLaw (K w.params))) :
    PySem.W.WalkO q loose XP YP l.row.toRowW d [] (fun f vs => PySem.call f vs) :=
  L2.walk_of (n := 63) (k := 3) (x := "_law_script") (CX := fun _ => CX0) (sp := fun w => spLaw (K w.params)) hn (by decide) hdf ⟨rfl, by decide, by decide⟩ hY F (fun _ _ a ns hl _ hS => ⟨a, ns, rfl, hS, hl, fun _ => rfl⟩) fun _ _ _ _ _ z => z
end K48

open PySem PySem.W PyProof.Rows in
set_option maxRecDepth 100000 in
set_option maxHeartbeats 0 in
theorem PySem.Challenge.cw_waypairs_k48_memos_of_two_ways_holds : PySem.Challenge.rw_waypairs_k48_memos_of_two_ways.Holds := by
  w_on; o_law; k_head; (case hw => w_witness2)
  k_fill
  refine K48.walk (l := PySem.Challenge.rw_waypairs_k48_memos_of_two_ways) rfl rfl (fun w h Y => PySem.W.kIn_of Y) ?F
  case F =>
    intro w mg fa h KX G hmg
    refine' K48.all_mk KX G hmg ?a0 ?l0 ?c0 ?k0 ?a1 ?l1 ?c1 ?k1 ?a2 ?l2 ?c2 ?k2 ?a3 ?l3 ?c3 ?k3 ?a4 ?l4 ?c4 ?k4 ?a5 ?l5 ?c5 ?k5 ?a6 ?l6 ?c6 ?k6 ?a7 ?l7 ?c7 ?k7 ?a8 ?l8 ?c8 ?k8 ?a9 ?l9 ?c9 ?k9 ?z0 ?z1 ?z2 ?z3 ?z4 ?z5 ?z6 ?z7 ?z8 ?z9
    (case a0 => k_is)
    (case l0 => k_is)
    (case c0 => k_is)
    (case k0 => k_is)
    (case a1 => k_is)
    (case l1 => k_is)
    (case c1 => k_is)
    (case k1 => k_is)
    (case a2 => k_is)
    (case l2 => k_is)
    (case c2 => k_is)
    (case k2 => k_is)
    (case a3 => k_is)
    (case l3 => k_is)
    (case c3 => k_is)
    (case k3 => k_is)
    (case a4 => k_is)
    (case l4 => k_is)
    (case c4 => k_is)
    (case k4 => k_is)
    (case a5 => k_is)
    (case l5 => k_is)
    (case c5 => k_is)
    (case k5 => k_is)
    (case a6 => k_is)
    (case l6 => k_is)
    (case c6 => k_is)
    (case k6 => k_is)
    (case a7 => k_is)
    (case l7 => k_is)
    (case c7 => k_is)
    (case k7 => k_is)
    (case a8 => k_is)
    (case l8 => k_is)
    (case c8 => k_is)
    (case k8 => k_is)
    (case a9 => k_is)
    (case l9 => k_is)
    (case c9 => k_is)
    (case k9 => k_is)
    (case z0 => k_is)
    (case z1 => k_is)
    (case z2 => k_is)
    (case z3 => k_is)
    (case z4 => k_is)
    (case z5 => k_is)
    (case z6 => k_is)
    (case z7 => k_is)
    (case z8 => k_is)
    (case z9 => k_is)
#print axioms PySem.Challenge.cw_waypairs_k48_memos_of_two_ways_holds
