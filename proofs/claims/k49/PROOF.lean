import PyProof.Rows.All
import Wide.All
import OpenK.AllK
import Wide.FinOn
import HandS.ForMost
import HandS.Zip
import HandS.Walk
import HandS.IsInst
import HandS.Evl
import HandS.Defaults
import HandS.Style
import KE.GoesEnum
import PySem.Challenge.RW_waypairs_k49_meetings
set_option Elab.async false
set_option linter.all false
set_option maxRecDepth 100000
set_option maxHeartbeats 4000000
/-! enumerate over a tuple -/
namespace Way
open PySem PySem.Spec PyProof.Rows L2
set_option maxHeartbeats 1000000 in
theorem meets_enumerate_newT {v : Value} {o : Obj} {H : Heap → Prop} (B : Begins v o H) :
    Meets (Builtin.«enumerate.__new__» ⟨[.type "enumerate", v], []⟩) (fun _ R s => H s.heap ∧
      R (.ok (.ret (.ref (s.heap.push o).objs.size))) { s with heap := (s.heap.push o).push { cls := .type "enumerate", data := .fields #[.none, .bool false, .ref s.heap.objs.size, rawInt 0, .none, .none] } }) :=
  .of_wp fun prog w A R s h => by
    obtain ⟨hp, g, d, tk, os⟩ := s; obtain ⟨h1, h⟩ := h
    have hsub := sub_enumerate
    have q1 : ∀ {A' : Around} {E : Value → Shared → Prop} {Q : Value → Shared → Prop}, Q (.ref hp.objs.size) ⟨hp.push o, g, d, tk, os⟩ → wpAny (model prog w) A' (pyIter v) Q E ⟨hp, g, d, tk, os⟩ :=
      fun q => B.iter prog w _ _ ⟨hp, g, d, tk, os⟩ _ h1 q
    wp_walk using q1
    refine wpAny_stack_any fun st => wpAny_pure ?_
    split
    · rename_i c _ _ _ _ _
      cases (c == Value.type "enumerate")
      · wp_walk using q1
        exact ⟨_, rfl, h⟩
      · wp_walk using q1
        exact ⟨_, rfl, h⟩
    · wp_walk using q1
      exact ⟨_, rfl, h⟩
theorem enum_beginsT {prog : Program} {w : World} {A : Around} {E : Value → Shared → Prop} {s : Shared} {v : Value} {o : Obj} {H : Heap → Prop} {Q : Value → Shared → Prop} (B : Begins v o H) (h1 : H s.heap)
    (h : ∀ h', IsEnum h' (s.heap.objs.size + 1) s.heap.objs.size 0 .none → h'.get? s.heap.objs.size = some o → h'.objs.size = s.heap.objs.size + 2 →
      (∀ b o, s.heap.get? b = some o → h'.get? b = some o) → Q (.ref (s.heap.objs.size + 1)) { s with heap := h' }) :
    wpAny (model prog w) A (call (.type "enumerate") [v]) Q E s := by
  refine callType_new F.called_enumerate (by decide) (F.typeCall_enumerate_1 _) (F.newCall_enumerate_1 _) (fun obj => F.args_object_init_2 obj _) F.entry_enumerate_new
    (meets_enumerate_newT B) ⟨h1, ?_⟩
  have hz : (s.heap.push o).objs.size = s.heap.objs.size + 1 := Heap.size_push ..
  show _ ∧ _
  rw [hz]
  have he : IsEnum ((s.heap.push o).push { cls := .type "enumerate", data := .fields #[.none, .bool false, .ref s.heap.objs.size, rawInt 0, .none, .none] }) (s.heap.objs.size + 1) s.heap.objs.size 0 .none := by
    have := Heap.get?_push_size (s.heap.push o) (o := { cls := .type "enumerate", data := .fields #[.none, .bool false, .ref s.heap.objs.size, rawInt 0, .none, .none] }) rfl
    rw [hz] at this; exact this
  refine ⟨⟨_, he, rfl⟩, h _ he (Heap.get?_push_of_some _ (Heap.get?_push_size _ B.free)) (by rw [Heap.size_push, hz]) fun b o x => Heap.get?_push_of_some _ (Heap.get?_push_of_some _ x)⟩

/-- the tuple at a, each item in a new pair with its number -/
def IteT (K : PySem.W.Frag) (a : Addr) : It :=
  ⟨fun i H => ∃ (xs : List V) (x : V), SqT K H a xs ∧ xs[i]? = some x, fun i H v H' => ∃ T x, v = .ref T ∧ H T = none ∧ H' = upd H T (.tup [.int (i : Nat), x]) ∧ ∀ xs, SqT K H a xs → xs[i]? = some x, fun i H => ∃ xs : List V, SqT K H a xs ∧ xs.length ≤ i⟩
theorem apart_tupIter {h : Heap} {a it : Addr} {i : Nat} {its : Array Value} (ht : h.IsTuple a its) (hi : h.IsTupleIter it a i) : a ≠ it := by
  rintro rfl
  obtain ⟨o, ho, hc, _⟩ := ht
  obtain ⟨o', ho', hc', _⟩ := hi
  rw [ho] at ho'
  cases ho'
  rw [hc] at hc'
  exact absurd hc' (by decide)
theorem turn_enumT {P : Program} {w : World} {K : PySem.W.Frag} {elts : List Expr} {kk : Nat} {tpos : Pos} (a e it : Addr) :
    Turn P w K (.Tuple elts kk tpos) (IteT K a) [e, it] e (fun i h => (∃ old, IsEnum h e it ((i : Nat) : Int) old) ∧ h.IsTupleIter it a i ∧ e ≠ it) where
  mem := by simp
  obj := fun i h st b hb => by
    obtain ⟨⟨old, he⟩, ⟨o, ho, hc, hd⟩, _⟩ := st
    have e' : b = e ∨ b = it := by simpa using hb
    rcases e' with z | z
    · rw [z]; exact ⟨_, he, fun v q => nomatch q⟩
    · rw [z]; exact ⟨o, ho, fun v q => by rw [hd] at q; cases q⟩
  keep := fun i h h' st k => let ⟨⟨old, he⟩, hi, hne⟩ := st; ⟨⟨old, k e (by simp) _ he⟩, hi.at fun o q => k it (by simp) o q, hne⟩
  item := by
    intro X hP hw hK hc i pins s σ H E I hf st hg
    subst hP hw hK
    obtain ⟨⟨old, he⟩, hit, hne⟩ := st
    obtain ⟨xs, x, hq, hx⟩ := hg
    obtain ⟨its, rv, p, hz⟩ := I.tuple hq
    have p' : s.heap.IsTuple a its.toArray := p
    obtain ⟨u, hu, ru⟩ := rv.get hx
    have hai := apart_tupIter p' hit
    have hae : a ≠ e := by
      rintro rfl
      obtain ⟨o, ho, hc', _⟩ := p'
      rw [he] at ho
      cases ho
      exact absurd (show Value.type "enumerate" = Value.type "tuple" from hc') (by decide)
    have hel : e < s.heap.objs.size := Heap.lt_size he
    have hil : it < s.heap.objs.size := by obtain ⟨_, q, _⟩ := hit; exact Heap.lt_size q
    have hi : i < its.toArray.size := by
      have q := (List.getElem?_eq_some_iff.mp hu).1
      simpa using q
    refine wpAny_pyNext_enum_itemD (Draws.tuple (A := X.A.in1) (I.ok.hd hc) it a hai its.toArray) he ⟨hit, p'⟩ hi hne (by simp; exact ⟨hne, hae.symm⟩) fun y h' tk hP ho hs' hT hsz hk => ?_
    obtain ⟨hit', _⟩ := hs'
    have ey : y = u := by
      have hP' : its.toArray[i]? = some y := hP
      have hu' : its.toArray[i]? = some u := by simpa using hu
      rw [hu'] at hP'
      exact (Option.some.inj hP').symm
    subst ey
    refine ⟨_, rfl, wpAny_letOwnedTupleGo_enum (s := { s with heap := h', toks := tk + 1 }) ho fun h'' he' sb => ?_⟩
    have hT2 : h''.get? s.heap.objs.size = some { cls := .type "tuple", data := .seq #[.int i tk, y] } := (sb.2 _ (Nat.ne_of_gt hel)).trans hT
    have new : ObjOk X.prog X.w (upd H s.heap.objs.size (.tup [.int (i : Nat), x])) h'' s.heap.objs.size (.tup [.int (i : Nat), x]) :=
      ⟨by show 2 ≤ sizeLine; decide, [.int i tk, y], .cons ⟨_, rfl⟩ (.cons ru .nil), ⟨_, hT2, rfl, _, rfl⟩⟩
    have I1 : Inv X pins σ (upd H s.heap.objs.size (.tup [.int (i : Nat), x])) { s with heap := h'', toks := tk + 1 } :=
      I.turnedNew (ch := [e, it]) (fun b ob hb q => (sb.2 b (fun z => hb (by simp [z]))).trans (hk b ob (fun z => hb (by simp [z])) (fun z => hb (by simp [z])) q)) hf (Nat.le_refl _) new
    refine ⟨.ref s.heap.objs.size, _, I1, rfl, ⟨_, x, rfl, I.hok.fresh (Nat.le_refl _), rfl, fun ys hy => by rw [I.tuple_inj hy hq]; exact hx⟩, ⟨⟨y, ?_⟩, hit'.at fun o q => (sb.2 it (Ne.symm hne)).trans q, hne⟩, fun b hb => ?_⟩
    · have e1 : ((i + 1 : Nat) : Int) = (i : Int) + 1 := by omega
      rw [e1]; exact he'
    · have hb' : b < s.heap.objs.size := by
        have e' : b = e ∨ b = it := by simpa using hb
        rcases e' with z | z
        · rw [z]; exact hel
        · rw [z]; exact hil
      rw [upd_ne (Nat.ne_of_lt hb')]
      exact (hf b hb).1
  done := by
    intro X hP hw hK hc i pins s σ H E I hf st hg
    subst hP hw hK
    obtain ⟨⟨old, he⟩, hit, hne⟩ := st
    obtain ⟨xs, hq, hx⟩ := hg
    obtain ⟨its, rv, p, hz⟩ := I.tuple hq
    have p' : s.heap.IsTuple a its.toArray := p
    obtain ⟨f0, f1, f2, f3, f4, f5⟩ := hf it (by simp)
    have hl := rv.length
    have hT : s.TypeIs (.ref e) "enumerate" := ⟨_, he, rfl⟩
    unfold pyNext
    refine wpAny_bind (wpAny_attempt (wpAny_callSpecial?_slot (name := Str.ofString "__next__") hT F.slot_enumerate_next
      (wpAny_call_entry F.slot_enumerate_next hT F.entry_enumerate_next ?_ (F.args_enumerate_next_1 _))))
    show wpAny _ _ (field (.ref e) 2 >>= _) _ _ _
    refine wpAny_bind (wpAny_field he rfl (x := .ref it) rfl ?_)
    refine wpAny_bind (RZ.nextOf_tuple_end (I.ok.hd hc) hit p' (by simp; omega) fun h' x he' hx' => ?_)
    obtain ⟨o, ho, hc⟩ := hx'
    refine wpAny_bind (wpAny_isInstance (T := "StopIteration") (b := true) ⟨o, ho, hc⟩ isSubtype_stop ?_)
    exact wpAny_pure ⟨rfl, I.turned (t' := s.toks) (fun b o hb q => he' b o hb q) f0 f1 f3 f4 f5⟩
  self := fun A i s Q E st h => let ⟨⟨_, he⟩, _⟩ := st; wpAny_pyIter_enum he h
def iEnumT (K : PySem.W.Frag) (ta : TA) : TI := fun σ H R => ta σ H fun vs H1 => ∃ a xs, vs = [.ref a] ∧ SqT K H1 a xs ∧ R (IteT K a) H1
theorem pi_enumT {X : Cx} {e : Expr} {ta : TA} {p pos tpos : Pos} {elts : List Expr} {kk : Nat} (hg : Gl X "enumerate") (hm : X.mg "enumerate" = none) (ha : PA X [e] ta) (hs : starEach [e] X.env = [(false, eval e X.env)] := by rfl) :
    PI X (.Tuple elts kk tpos) (.Call (.Name "enumerate" p) [e] [] pos) (iEnumT X.K ta) := by
  refine ⟨fun pins s σ H R I h => ?_⟩
  refine Call_ (ld_blt I hg hm boot_enumerate (PyProof.Rows.callWith_type1 (thn (ha.run pos pins s σ H _ I h) fun us s1 ⟨vs, H1, I1, r1, q1⟩ => ?_) hs rfl))
  obtain ⟨a, xs, ex, hq, q⟩ := q1
  subst ex
  cases r1 with
  | cons r rr =>
    cases rr
    cases r
    obtain ⟨its, rv, p', hz⟩ := I1.tuple hq
    have p'' : s1.heap.IsTuple a its.toArray := p'
    refine enum_beginsT (begins_tuple a its.toArray) p'' fun h' he hit hsz hk => wpAny_pyIter_enum he ?_
    have I2 : Inv X pins σ H1 { s1 with heap := h' } := I1.kept (t' := s1.toks) hk
    refine ⟨s1.heap.objs.size + 1, [s1.heap.objs.size + 1, s1.heap.objs.size], _, _, H1, rfl, I2, turn_enumT a (s1.heap.objs.size + 1) s1.heap.objs.size, ⟨⟨.none, he⟩, ⟨_, hit, rfl, rfl⟩, Nat.succ_ne_self _⟩, fun b hb => ?_, q⟩
    have e' : b = s1.heap.objs.size + 1 ∨ b = s1.heap.objs.size := by simpa using hb
    have hle : s1.heap.objs.size ≤ b := by
      rcases e' with z | z
      · rw [z]; exact Nat.le_add_right _ _
      · rw [z]; exact Nat.le_refl _
    exact I1.fpOk hle (I1.hok.fresh hle)
theorem walk_enumT {K : PySem.W.Frag} {a : Addr} {xs : List V} : Walk (IteT K a) xs.length (fun H => SqT K H a xs) (YPair (fun i => some (.int (i : Nat))) (fun i => xs[i]?)) := by
  refine ⟨fun i _ hi q => ⟨xs, xs[i], q, by simp [hi]⟩, fun _ q => ⟨xs, q, Nat.le_refl _⟩, fun i H v H' _ q y => ?_⟩
  obtain ⟨T, x, h1, h2, h3, h4⟩ := y
  exact ⟨T, .int (i : Nat), x, h1, h2, h3, rfl, h4 xs q⟩

/-! f(k = v, ..): keywords alone -/
section
variable {X : Cx} {CX : CXT} {k : Nat} {f : Addr} {fd : FuncData} {ps ks : List Str} {sp : Sp} {x : Str} {kws : List Keyword} {tk : TA} {E : XK} {p pos : Pos} {g : List Value → List Value → List Value} {gV : List V → List V → List V}
theorem pe_callK0 (F : FnOk X.prog X.w X.K X.mg X.base CX k f fd ps sp) (hr : Room k X.A) (hg : Gl X x) (hm : X.mg x = some (.ref f)) (hk : PySem.W.keepIn X.K (.ref f) = true) (hb : KBinds X.K fd ps ks g gV) (hx : Passes CX X E)
    (hkw : PK X kws tk) (hall : (backToKw pos (keywordEach kws X.env)).all (·.1.isSome) = true := by rfl) (hks : (backToKw pos (keywordEach kws X.env)).filterMap (·.1) = ks := by rfl)
    (hdb : (x == ("__debug__" : Str)) = false := by decide)
    (hpl : ((backTo pos (starEach [] X.env)).any (·.1) || (backToKw pos (keywordEach kws X.env)).any (·.1.isNone)) = false := by rfl) :
    PE X (.Call (.Name x p) [] kws pos) (tCallK sp gV E tNil tk) := by
  refine ⟨fun pins s σ H Q I h => ?_⟩
  refine wpAny_Call_Name_kw (ld_glob I hg hm ?_ hdb)
  refine PySem.W.callWith_KW0 (h₀ := X.base) I.ok.mod.kin hk hall ?_ hpl
  refine thn (hkw.run pos pins s σ H _ I h) fun ws s2 ⟨zs, H2, I2, rz, q2⟩ => ⟨I2.kIn, ?_⟩
  rw [hks]
  exact run_fnk (us := []) (vs := []) F hr hb hx I2 .nil rz q2
end

/-! heaps -/
theorem Same.new {H H' : Hp} {p : Addr} {o : HO} (s : Same H H') (h : H p = none) : Same H (upd H' p o) := fun b u e => by
  rw [upd_ne (ne_of_none e h)]
  exact s b u e
theorem Same.new' {H H' : Hp} {p : Addr} {o : HO} (s : Same H H') (h : H' p = none) : Same H (upd H' p o) := Same.new s (s.free h)
theorem Same.tup {K : PySem.W.Frag} {H H' : Hp} {a : Addr} {xs : List V} (e : Same H H') (h : SqT K H a xs) : SqT K H' a xs := by
  rcases h with (h | ⟨o, h⟩) | h
  · exact .inl (.inl (e _ _ h))
  · exact .inl (.inr ⟨o, e _ _ h⟩)
  · exact .inr h
/-- all but the object at s is as it was -/
def Kp (s : Addr) (H H' : Hp) : Prop := ∀ b o, b ≠ s → H b = some o → H' b = some o
theorem Kp.refl (s : Addr) (H : Hp) : Kp s H H := fun _ _ _ h => h
theorem Kp.trans {s : Addr} {H H1 H2 : Hp} (a : Kp s H H1) (b : Kp s H1 H2) : Kp s H H2 := fun c o n h => b c o n (a c o n h)
theorem Kp.of {s : Addr} {H H' : Hp} (a : Same H H') : Kp s H H' := fun c o _ h => a c o h
theorem Kp.set {s : Addr} {H H' : Hp} {o : HO} (a : Kp s H H') : Kp s H (upd H' s o) := fun c u n h => by rw [upd_ne n]; exact a c u n h
theorem Kp.new {s p : Addr} {H H' : Hp} {o : HO} (a : Kp s H H') (n : H p = none) : Kp s H (upd H' p o) := fun c u nc h => by
  rw [upd_ne (ne_of_none h n)]; exact a c u nc h
theorem Kp.free {s p : Addr} {H H' : Hp} (a : Kp s H H') (ns : p ≠ s) (n : H' p = none) : H p = none := by
  cases q : H p with
  | none => rfl
  | some o => rw [a p o ns q] at n; cases n
theorem flat_ints (l : List Int) : (l.map V.int).all flatV = true := by
  induction l with
  | nil => rfl
  | cons a r ih => rw [List.map_cons, List.all_cons, ih]; rfl
theorem flat_strs (l : List Str) : (l.map V.str).all flatV = true := by
  induction l with
  | nil => rfl
  | cons a r ih => rw [List.map_cons, List.all_cons, ih]; rfl
theorem inV_ints (i : Int) (l : List Int) : inV (.int i) (l.map V.int) = l.contains i := by
  induction l with
  | nil => rfl
  | cons a r ih =>
    unfold inV at ih
    unfold inV
    rw [List.map_cons, List.any_cons, ih, List.contains_cons]
    congr 1
    show decide (a = i) = (i == a)
    by_cases h : a = i
    · subst h; simp
    · rw [decide_eq_false h]
      exact (beq_eq_false_iff_ne.mpr (fun q => h q.symm)).symm
/-! evaluation without effect -/
section
open Evl
variable {K : PySem.W.Frag} {H : Hp} {σ : L2.St} {t : TT} {te tl : TE}
theorem el_lcT {a : Addr} {xs : List V} {j : Nat} {vs : List Nat} (f : Nat → Bool) (v : Nat → V) (h : Ev tl σ H (.ref a)) (hx : SqT K H a xs) (hz : xs.length ≤ 40000) (hw : ∀ x, wipe ((wipe σ vs).set j (some x)) vs = wipe σ vs)
    (ht : ∀ (i : Nat) (x : V) H1, Ex H H1 → xs[i]? = some x → EvT t ((wipe σ vs).set j (some x)) H1 (f i)) (he : ∀ (i : Nat) (x : V) H1, Ex H H1 → xs[i]? = some x → f i = true → Ev te ((wipe σ vs).set j (some x)) H1 (v i)) :
    EvL (tLc (iTup K tl) (gName j) t te vs) σ H (given xs.length f v) := fun H0 e Q q => h H0 e _ fun H1 e1 => ⟨a, rfl, ⟨xs, ex_t (e.trans e1) hx⟩, fun Dl hD =>
  lc_tup (xs := xs) (Cw H1 f v Dl) ⟨hD, Ex.new hD, upd_same⟩ (fun i H' _ p => ex_t ((e.trans e1).trans p.2.1) hx) (fun i x H' hi p => ⟨hw x, cw_turn p (by have := (List.getElem?_eq_some_iff.mp hi).1; omega) (ht i x H1 (e.trans e1) hi) (fun hf => he i x H1 (e.trans e1) hi hf)⟩)
    (fun H' p => q Dl H' (fresh_back e1 p.1) (e1.trans p.2.1) p.2.2)⟩
theorem rv_isN {x : V} : RV (fun x y H Q => y = V.non ∧ Q (.bl (decide (x = V.non))) H) x .non H (.bl (decide (x = .non))) := fun H1 _ _ q => ⟨rfl, q H1 (Ex.refl H1)⟩
theorem rv_notN {x : V} : RV (fun x y H Q => y = V.non ∧ Q (.bl (!decide (x = V.non))) H) x .non H (.bl (!decide (x = .non))) := fun H1 _ _ q => ⟨rfl, q H1 (Ex.refl H1)⟩
theorem rc_isi {x c : V} {t u : Value} {b : Bool} (k : ClsV c u) (ty : ∀ H1, Ex H H1 → TyX K H1 x t) (e : PySem.W.kitOne K t u = some b) : RC (rIsi K) [x, c] H (.bl b) := fun H1 e1 _ q => ⟨x, c, t, u, b, rfl, k, ty H1 e1, e, q H1 (Ex.refl H1)⟩
theorem ty_tup {a : Addr} {xs : List V} (h : H a = some (.tup xs)) : ∀ H1, Ex H H1 → TyX K H1 (.ref a) (.type "tuple") := fun H1 e => .base (.tup (e _ _ h))
theorem ty_lst {a : Addr} {xs : List V} (h : H a = some (.lst xs)) : ∀ H1, Ex H H1 → TyX K H1 (.ref a) (.type "list") := fun H1 e => .base (.lst (e _ _ h))
theorem ty_bl {b : Bool} : ∀ H1, Ex H H1 → TyX K H1 (.bl b) (.type "bool") := fun H1 e => .base (.bl b)
theorem ty_int {i : Int} : ∀ H1, Ex H H1 → TyX K H1 (.int i) (.type "int") := fun H1 e => .base (.int i)
theorem ty_str {x : Str} : ∀ H1, Ex H H1 → TyX K H1 (.str x) (.type "str") := fun H1 e => .base (.str x)
theorem ty_non : ∀ H1, Ex H H1 → TyX K H1 .non (.type "NoneType") := fun H1 e => .base .non
theorem rc_lenL {p : Addr} {xs : List V} (h : SqL K H p xs) : RC (fun xs H Q => ∃ p ys, xs = [V.ref p] ∧ (SqL K H p ys ∨ SqT K H p ys) ∧ Q (.int ys.length) H) [.ref p] H (.int (xs.length : Int)) := fun H1 e _ q => ⟨p, xs, rfl, .inl (ex_l e h), q H1 (Ex.refl H1)⟩
theorem rc_lenT {p : Addr} {xs : List V} (h : SqT K H p xs) : RC (fun xs H Q => ∃ p ys, xs = [V.ref p] ∧ (SqL K H p ys ∨ SqT K H p ys) ∧ Q (.int ys.length) H) [.ref p] H (.int (xs.length : Int)) := fun H1 e _ q => ⟨p, xs, rfl, .inr (ex_t e h), q H1 (Ex.refl H1)⟩
theorem rv_eqD {x y : V} {d e : PyData} (h1 : ∀ H1, Ex H H1 → Dp K H1 x d) (h2 : ∀ H1, Ex H H1 → Dp K H1 y e) (s1 : SeqAt.shaped d = true) (s2 : SeqAt.shaped e = true) : RV (rEqD K) x y H (.bl (PyData.eqv d e)) :=
  fun H1 e1 _ q => ⟨d, e, h1 H1 e1, h2 H1 e1, s1, s2, q H1 (Ex.refl H1)⟩
theorem rv_neD {x y : V} {d e : PyData} (h1 : ∀ H1, Ex H H1 → Dp K H1 x d) (h2 : ∀ H1, Ex H H1 → Dp K H1 y e) (s1 : SeqAt.shaped d = true) (s2 : SeqAt.shaped e = true) : RV (rNeD K) x y H (.bl (!PyData.eqv d e)) :=
  fun H1 e1 _ q => ⟨d, e, h1 H1 e1, h2 H1 e1, s1, s2, q H1 (Ex.refl H1)⟩
theorem dp_bls : ∀ l : List Bool, DpAll K H (l.map V.bl) (l.map PyData.bool)
  | [] => .nil
  | b :: r => .cons (.bl b) (dp_bls r)
theorem dp_ints : ∀ l : List Int, DpAll K H (l.map V.int) (l.map PyData.int)
  | [] => .nil
  | b :: r => .cons (.int b) (dp_ints r)
theorem dp_strs : ∀ l : List Str, DpAll K H (l.map V.str) (l.map PyData.str)
  | [] => .nil
  | b :: r => .cons (.str b) (dp_strs r)
theorem dp_tupB {a : Addr} {l : List Bool} (h : H a = some (.tup (l.map V.bl))) : ∀ H1, Ex H H1 → Dp K H1 (.ref a) (.tuple (l.map PyData.bool)) := fun H1 e => .tup (SqT.of (e _ _ h)) (dp_bls l)
theorem dp_nil {a : Addr} (h : H a = some (.lst [])) : ∀ H1, Ex H H1 → Dp K H1 (.ref a) (.list []) := fun H1 e => .lst (SqL.of (e _ _ h)) .nil
end
/-! shapes of data -/
def Shp (n : Nat) (d : PyData) : Prop := d.canLay0 = true ∧ d.depth ≤ n
theorem shp_all {n : Nat} : ∀ {ds : List PyData}, (∀ d ∈ ds, Shp n d) → PyData.canLayAll0 ds = true ∧ PyData.depthAll ds ≤ n
  | [], _ => ⟨rfl, Nat.zero_le _⟩
  | d :: r, h => by
    obtain ⟨h1, h2⟩ := shp_all (ds := r) fun x hx => h x (List.mem_cons_of_mem _ hx)
    obtain ⟨g1, g2⟩ := h d (List.mem_cons_self ..)
    refine ⟨by simp only [PyData.canLayAll0, g1, h1, Bool.and_self], ?_⟩
    simp only [PyData.depthAll]
    omega
theorem shp_tup {n : Nat} {ds : List PyData} (h : ∀ d ∈ ds, Shp n d) : Shp (n + 1) (.tuple ds) := by
  obtain ⟨h1, h2⟩ := shp_all h
  exact ⟨by simpa only [PyData.canLay0] using h1, by simp only [PyData.depth]; omega⟩
theorem shp_lst {n : Nat} {ds : List PyData} (h : ∀ d ∈ ds, Shp n d) : Shp (n + 1) (.list ds) := by
  obtain ⟨h1, h2⟩ := shp_all h
  exact ⟨by simpa only [PyData.canLay0] using h1, by simp only [PyData.depth]; omega⟩
theorem shp_bl {n : Nat} {b : Bool} : Shp n (.bool b) := ⟨by simp only [PyData.canLay0], by simp only [PyData.depth]; omega⟩
theorem shp_int {n : Nat} {b : Int} : Shp n (.int b) := ⟨by simp only [PyData.canLay0], by simp only [PyData.depth]; omega⟩
theorem shp_non {n : Nat} : Shp n .none := ⟨by simp only [PyData.canLay0], by simp only [PyData.depth]; omega⟩
theorem Shp.ok {n : Nat} {d : PyData} (h : Shp n d) (hn : n ≤ 64 := by decide) : SeqAt.shaped d = true := by
  unfold SeqAt.shaped
  rw [h.1, decide_eq_true (Nat.le_trans h.2 hn)]
  rfl
theorem Shp.same {n : Nat} {d : PyData} (h : Shp n d) : PyData.eqv d d = true := SeqAt.eqv_refl d h.1
theorem shp_bls (l : List Bool) : Shp 1 (.tuple (l.map PyData.bool)) := shp_tup fun d hd => by
  obtain ⟨b, _, rfl⟩ := List.mem_map.mp hd
  exact shp_bl
/-! the rules with K apart (for blocks of comprehensions) -/
section
variable {X : Cx}
theorem kk_isi {K : PySem.W.Frag} (h : X.K = K := by rfl) : CallR X (.builtin "isinstance") (rIsi K) := h ▸ call_isi
theorem kk_in {K : PySem.W.Frag} (h : X.K = K := by rfl) : OpR X (compareOp .In) (rIn K false) := h ▸ op_in_seq
theorem kk_notin {K : PySem.W.Frag} (h : X.K = K := by rfl) : OpR X (compareOp .NotIn) (rIn K true) := h ▸ op_notIn_seq
theorem kk_ixL {K : PySem.W.Frag} (h : X.K = K := by rfl) : IxR X (rIxL K) := h ▸ ix_list
theorem kk_ixT {K : PySem.W.Frag} (h : X.K = K := by rfl) : IxR X (rIxT K) := h ▸ ix_tup
theorem kk_eqD {K : PySem.W.Frag} (hu : X.A.units + 64 < cLine) (h : X.K = K := by rfl) : OpR X (compareOp .Eq) (rEqD K) := h ▸ op_eqD hu
theorem kk_neD {K : PySem.W.Frag} (hu : X.A.units + 64 < cLine) (h : X.K = K := by rfl) : OpR X (compareOp .NotEq) (rNeD K) := h ▸ op_neD hu
end
/-! keyword-only defaults alone, some of them written -/
theorem kbinds0 {K : PySem.W.Frag} {x qual : Str} {params : Arguments} {body : List Stmt} {scope : Scope} {kws : List (Str × V)} {f : Addr} {fd : FuncData} {ps : List Str} (F : FunD K x qual params body scope [] kws f fd) (n : Nat) (ks : List Str) (ms : List (Str × V)) (g : {α : Type} → List α → List α → List α → List α) (hk : kws ≠ []) (hms : ∀ q ∈ ms, q ∈ kws)
    (hrel : ∀ {vs mz zs : List V} {us mv ws : List Value}, Vals vs us → Vals mz mv → Vals zs ws → Vals (g vs mz zs) (g us mv ws))
    (h : ∀ (D : Addr) (doc pm : Value) (an : Option Addr) (cdv ct : Value) (us mv ws : List Value), us.length = n → mv.length = ms.length → ws.length = ks.length →
      KwChain D ((ms.map (·.1)).zip mv) (bindArgs (PySem.W.fnOf x qual params body scope .none (.ref D) doc pm an cdv ct) ⟨us, ks.zip ws⟩) (ps.zip (g us mv ws))) :
    ∃ mv : List Value, KBn K fd ps n ks (fun us ws => g us mv ws) (fun vs zs => g vs (ms.map (·.2)) zs) := by
  obtain ⟨oc, od, dV, kV, doc, pm, an, cdv, ct, osl, rfl, lk, hcd, hD, hK⟩ := F.ex
  rcases hD with ⟨_, rfl⟩ | ⟨e, _⟩
  · rcases hK with e | ⟨D, rfl, hq⟩
    · exact absurd e hk
    · obtain ⟨mv, hl, rk, hks⟩ := kwd_vals (ms := ms) fun q hm => hq q (hms q hm)
      refine ⟨mv, ⟨fun s us ws X l1 l2 => ?_, fun r1 r2 => hrel r1 rk r2⟩⟩
      exact BindsTo.of_looks fun M => KwChain.looks X hks (h D doc pm an cdv ct us mv ws l1 hl l2)
  · exact absurd rfl e
theorem okD {P : Program} {w : World} {K : PySem.W.Frag} {mg : Str → Option Value} {base : Heap} {x qual : Str} {params : Arguments} {body : List Stmt} {scope : Scope} {dvs : List V} {kws : List (Str × V)} {f : Addr} {fd : FuncData} {N ps : List Str} {k : Nat} {sp : Sp} (F : FunD K x qual params body scope dvs kws f fd) (S : FnScope N ps scope) (len : ∀ vs H Q E, sp vs H Q E → vs.length = ps.length)
    (hbody : ∀ (cdv : Value) (A : Around) (outer : List Env) (s : Shared) (H : Hp) (vs : List V) (Q : VK) (E : XK), Room k (A.deeper (envOfC qual scope s.heap.objs.size f cdv)) → sp vs H Q E →
      ∃ t, PSs (cxOf CX0 P w K mg base N qual scope f cdv A outer s H E).nox body t ∧ t { nx := fun _ H' => Q .non H', rt := Q } (start N vs) H) : FnOk P w K mg base CX0 (k + 1) f fd ps sp :=
  F.ok S len fun cdv A outer s H vs Q E hr h => let ⟨t, h1, h2⟩ := hbody cdv A outer s H vs Q E hr h; ⟨t, h1.nox, h2⟩
section
open Evl
theorem q_par {i j : Nat} {ta : TA} {tz : TS} {D : Ends} {σ : L2.St} {H : Hp} {v w : V} (h : EvA ta σ H [v, w]) (k : ∀ H1, Ex H H1 → tz D ((σ.set i (some v)).set j (some w)) H1) : tSeq (tPar i j ta) tz D σ H :=
  h H (Ex.refl H) _ fun H1 e => ⟨v, w, rfl, k H1 e⟩
theorem q_par3 {i j l : Nat} {ta : TA} {tz : TS} {D : Ends} {σ : L2.St} {H : Hp} {v w u : V} (h : EvA ta σ H [v, w, u]) (k : ∀ H1, Ex H H1 → tz D (((σ.set i (some v)).set j (some w)).set l (some u)) H1) : tSeq (tPar3 i j l ta) tz D σ H :=
  h H (Ex.refl H) _ fun H1 e => ⟨v, w, u, rfl, k H1 e⟩
end
end Way

namespace K49
open PySem L2 Way Evl
def top (i : Nat) : Stmt := PySem.Challenge.pw_waypairs_k49_meetings.main.body.getD i (.Pass ⟨0, 0, 0, 0⟩)
abbrev s_meeting : Stmt := top 1
abbrev N_meeting : List Str := ["rules", "made", "others", "memos", "same", "home", "before", "levels", "at", "rule", "travel"]
abbrev P_meeting : List Str := ["rules", "made", "others", "memos", "same", "home"]
theorem sc_meeting : FnScope N_meeting P_meeting (defScope s_meeting) := ⟨rfl, rfl, rfl, by decide +kernel, rfl, by decide +kernel, by decide +kernel⟩
abbrev s_source : Stmt := top 3
abbrev N_source : List Str := ["_law_script", "_law_place", "_law_cell", "_law_size"]
abbrev P_source : List Str := ["_law_script", "_law_place"]
theorem sc_source : FnScope N_source P_source (defScope s_source) := ⟨rfl, rfl, rfl, by decide +kernel, rfl, by decide +kernel, by decide +kernel⟩
abbrev s_draw : Stmt := top 4
abbrev N_draw : List Str := ["_law_source_here", "_law_many", "_law_digit", "_law_turn"]
abbrev P_draw : List Str := ["_law_source_here", "_law_many"]
theorem sc_draw : FnScope N_draw P_draw (defScope s_draw) := ⟨rfl, rfl, rfl, by decide +kernel, rfl, by decide +kernel, by decide +kernel⟩
abbrev s_of : Stmt := top 5
abbrev N_of : List Str := ["_law_source_here", "_law_some"]
abbrev P_of : List Str := ["_law_source_here", "_law_some"]
theorem sc_of : FnScope N_of P_of (defScope s_of) := ⟨rfl, rfl, rfl, by decide +kernel, rfl, by decide +kernel, by decide +kernel⟩
abbrev s_made : Stmt := top 6
abbrev N_made : List Str := ["_law_source_here", "_law_size", "_law_travel"]
abbrev P_made : List Str := ["_law_source_here", "_law_size"]
theorem sc_made : FnScope N_made P_made (defScope s_made) := ⟨rfl, rfl, rfl, by decide +kernel, rfl, by decide +kernel, by decide +kernel⟩
abbrev s_flags : Stmt := top 7
abbrev N_flags : List Str := ["_law_source_here", "_law_size", "_law_travel"]
abbrev P_flags : List Str := ["_law_source_here", "_law_size"]
theorem sc_flags : FnScope N_flags P_flags (defScope s_flags) := ⟨rfl, rfl, rfl, by decide +kernel, rfl, by decide +kernel, by decide +kernel⟩
abbrev s_level : Stmt := top 8
abbrev N_level : List Str := ["_law_rule", "_law_both", "_law_one", "_law_memo", "_law_before"]
abbrev P_level : List Str := ["_law_rule", "_law_both", "_law_one", "_law_memo", "_law_before"]
theorem sc_level : FnScope N_level P_level (defScope s_level) := ⟨rfl, rfl, rfl, by decide +kernel, rfl, by decide +kernel, by decide +kernel⟩
abbrev s_due : Stmt := top 9
abbrev N_due : List Str := ["_law_rules", "_law_made_here", "_law_others", "_law_memos", "_law_own_same", "_law_own_home", "_law_due_here", "_law_before", "_law_at", "_law_rule", "_law_here", "_law_there"]
abbrev P_due : List Str := ["_law_rules", "_law_made_here", "_law_others", "_law_memos", "_law_own_same", "_law_own_home"]
theorem sc_due : FnScope N_due P_due (defScope s_due) := ⟨rfl, rfl, rfl, by decide +kernel, rfl, by decide +kernel, by decide +kernel⟩
abbrev s_law : Stmt := top 10
abbrev N_law : List Str := ["_law_script", "_law_place", "_law_source_here", "_law_turn", "_law_size", "_law_rules", "_law_made_here", "_law_others", "_law_memos", "_law_own_same", "_law_own_home", "_law_none", "_law_told", "_law_due_here", "_law_mine", "_law_theirs", "_law_travel", "_law_flag"]
abbrev P_law : List Str := ["_law_script"]
theorem sc_law : FnScope N_law P_law (defScope s_law) := ⟨rfl, rfl, rfl, by decide +kernel, rfl, by decide +kernel, by decide +kernel⟩
structure Txt (K : PySem.W.Frag) (mg : Str → Option Value) where
  f_meeting : Addr
  d_meeting : FuncData
  F_meeting : FunD K "meeting" "meeting" (defArgs s_meeting) (defBody s_meeting) (defScope s_meeting) [] [("same", .non), ("home", .bl true)] f_meeting d_meeting
  g_meeting : mg "meeting" = some (.ref f_meeting)
  f_source : Addr
  d_source : FuncData
  F_source : Fun K "_law_source" "_law_source" s_source f_source d_source
  B_source : Binds K d_source P_source []
  g_source : mg "_law_source" = some (.ref f_source)
  f_draw : Addr
  d_draw : FuncData
  F_draw : Fun K "_law_draw" "_law_draw" s_draw f_draw d_draw
  B_draw : Binds K d_draw P_draw []
  g_draw : mg "_law_draw" = some (.ref f_draw)
  f_of : Addr
  d_of : FuncData
  F_of : Fun K "_law_of" "_law_of" s_of f_of d_of
  B_of : Binds K d_of P_of []
  g_of : mg "_law_of" = some (.ref f_of)
  f_made : Addr
  d_made : FuncData
  F_made : Fun K "_law_made" "_law_made" s_made f_made d_made
  B_made : Binds K d_made P_made []
  g_made : mg "_law_made" = some (.ref f_made)
  f_flags : Addr
  d_flags : FuncData
  F_flags : Fun K "_law_flags" "_law_flags" s_flags f_flags d_flags
  B_flags : Binds K d_flags P_flags []
  g_flags : mg "_law_flags" = some (.ref f_flags)
  f_level : Addr
  d_level : FuncData
  F_level : Fun K "_law_level" "_law_level" s_level f_level d_level
  B_level : Binds K d_level P_level []
  g_level : mg "_law_level" = some (.ref f_level)
  f_due : Addr
  d_due : FuncData
  F_due : Fun K "_law_due" "_law_due" s_due f_due d_due
  B_due : Binds K d_due P_due []
  g_due : mg "_law_due" = some (.ref f_due)
  f_law : Addr
  d_law : FuncData
  F_law : Fun K "law" "law" s_law f_law d_law
  B_law : Binds K d_law P_law []
  g_law : mg "law" = some (.ref f_law)
  b_enumerate : mg "enumerate" = none
  b_tuple : mg "tuple" = none
  b_abs : mg "abs" = none
  b_range : mg "range" = none
  b_int : mg "int" = none
  b_max : mg "max" = none
  b_len : mg "len" = none
  b_min : mg "min" = none
  b_zip : mg "zip" = none
  b_isinstance : mg "isinstance" = none
  b_bool : mg "bool" = none
/-! the mathematics -/
def lvl (rule : Str) (both one memo before : Bool) : Bool := if both = true then (if rule = "itself" then memo && before else if rule = "marks" then memo else false) else before && !one
def mstep (rules : List Str) (made others : List Int) (memos same : List Bool) (i : Nat) (before : Bool) : Bool :=
  same.getD i false || lvl (rules.getD i "") (made.contains ((i : Int) + 1) && others.contains ((i : Int) + 1)) (made.contains ((i : Int) + 1) || others.contains ((i : Int) + 1)) (memos.getD i false) before
def mb (rules : List Str) (made others : List Int) (memos same : List Bool) (home : Bool) : Nat → Bool
  | 0 => home
  | i + 1 => mstep rules made others memos same i (mb rules made others memos same home i)
def mL (rules : List Str) (made others : List Int) (memos same : List Bool) (home : Bool) (n : Nat) : List Bool := (List.range n).map fun i => mb rules made others memos same home (i + 1)
theorem mL_succ (rules made others memos same home n) : mL rules made others memos same home (n + 1) = mL rules made others memos same home n ++ [mb rules made others memos same home (n + 1)] := by
  unfold mL; rw [List.range_succ, List.map_append]; rfl
theorem mL_len (rules made others memos same home n) : (mL rules made others memos same home n).length = n := by simp [mL]
theorem mb_congr {rules made others memos s1 s2 home} (h : ∀ i, s1.getD i false = s2.getD i false) : ∀ i, mb rules made others memos s1 home i = mb rules made others memos s2 home i
  | 0 => rfl
  | i + 1 => by
    unfold mb mstep
    rw [mb_congr h i, h i]
theorem mL_congr {rules made others memos s1 s2 home n} (h : ∀ i, s1.getD i false = s2.getD i false) : mL rules made others memos s1 home n = mL rules made others memos s2 home n := by
  unfold mL
  exact List.map_congr_left fun i _ => mb_congr h _
theorem getD_no (n i : Nat) : (List.replicate n false).getD i false = ([] : List Bool).getD i false := by
  rw [List.getD_eq_getElem?_getD, List.getElem?_replicate]
  split <;> rfl
/-- a tuple of flags, new -/
def NewFlags (H : Hp) (l : List Bool) (Q : VK) : Prop := ∀ H' p, Same H H' → H p = none → H' p = some (.tup (l.map V.bl)) → Q (.ref p) H'
def spMeeting : Sp := fun vs H Q _ => ∃ (ru ma ot me : Addr) (sv : V) (rules : List Str) (made others : List Int) (memos same : List Bool) (home : Bool),
  vs = [.ref ru, .ref ma, .ref ot, .ref me, sv, .bl home] ∧ H ru = some (.tup (rules.map V.str)) ∧ H ma = some (.tup (made.map V.int)) ∧ H ot = some (.tup (others.map V.int)) ∧ H me = some (.tup (memos.map V.bl)) ∧
  ((sv = .non ∧ same = []) ∨ ∃ sa, sv = .ref sa ∧ H sa = some (.tup (same.map V.bl)) ∧ same.length = rules.length) ∧
  memos.length = rules.length ∧ rules.length ≤ 1000 ∧ NewFlags H (mL rules made others memos same home rules.length) Q
theorem at_str {l : List Str} {i : Nat} {y : V} (e : (l.map V.str)[i]? = some y) : ∃ b, l[i]? = some b ∧ y = V.str b := by
  rw [List.getElem?_map] at e
  cases q : l[i]? with
  | none => rw [q] at e; cases e
  | some b => rw [q] at e; exact ⟨b, rfl, (Option.some.inj e).symm⟩
theorem at_bl {l : List Bool} {i : Nat} (h : i < l.length) : (l.map V.bl)[i]? = some (V.bl (l.getD i false)) := by
  rw [List.getElem?_map, List.getD_eq_getElem?_getD, List.getElem?_eq_getElem h]
  rfl
section
variable {P : Program} {w : World} {K : PySem.W.Frag} {mg : Str → Option Value} {base : Heap}
theorem ok_meeting (T : Txt K mg) : FnOk P w K mg base CX0 1 T.f_meeting T.d_meeting P_meeting spMeeting := by
  refine okD T.F_meeting sc_meeting (fun vs H Q E h => ?_) (fun cdv A outer s H vs Q E hr h => ?_)
  · obtain ⟨ru, ma, ot, me, sv, rules, made, others, memos, same, home, rfl, _⟩ := h
    rfl
  · obtain ⟨ru, ma, ot, me, sv, rules, made, others, memos, same, home, rfl, hru, hma, hot, hme, hsv, hl, hlen, k⟩ := h
    refine ⟨_, (pss_cons (ps_set (i := 6) sc_meeting.nd rfl (Or.inl rfl) (pv 5))
      (pss_cons (ps_set (i := 7) sc_meeting.nd rfl (Or.inl rfl) (pe_lst pa_nil))
      (pss_cons (ps_for PassesOwn.never rfl (Way.pi_enumT (by rfl) T.b_enumerate (pa_cons (pv 0) pa_nil)) (pg_tup rfl (pgs_cons (pg_name (i := 8) sc_meeting.nd rfl (Or.inl rfl)) (pgs_cons (pg_name (i := 9) sc_meeting.nd rfl (Or.inl rfl)) pgs_nil))) (pss_cons (ps_set (i := 10) sc_meeting.nd rfl (Or.inl rfl) (pe_op op_add (pv 8) pe_int))
      (pss_cut (ps_if (PW.pt (pw_and (pt_cmpR op_notN (pv 4) pe_non (nomark _)) (pw_and1 (pt_val (pe_ix ix_tup (pv 4) (pv 8) (fun _ _ => rfl)))))) (pss_one (ps_set (i := 6) sc_meeting.nd rfl (Or.inl rfl) pe_bl)) (pss_one (ps_if (PW.pt (pw_and (pt_cmpR op_in_seq (pv 10) (pv 1) (by rfl)) (pw_and1 (pt_cmpR op_in_seq (pv 10) (pv 2) (by rfl))))) (pss_one (ps_if (pt_cmpR op_eq (pv 9) pe_str (nomark _)) (pss_one (ps_set (i := 6) sc_meeting.nd rfl (Or.inl rfl) (pe_and (pv 6) (pe_one (pe_ix ix_tup (pv 3) (pv 8) (fun _ _ => rfl)))))) (pss_one (ps_set (i := 6) sc_meeting.nd rfl (Or.inl rfl) (pe_and (pe_cmpR op_eq (pv 9) pe_str (nomark _)) (pe_one (pe_ix ix_tup (pv 3) (pv 8) (fun _ _ => rfl)))))))) (pss_one (ps_if (PW.pt (pw_or (pt_cmpR op_in_seq (pv 10) (pv 1) (by rfl)) (pw_or1 (pt_cmpR op_in_seq (pv 10) (pv 2) (by rfl))))) (pss_one (ps_set (i := 6) sc_meeting.nd rfl (Or.inl rfl) pe_bl)) pss_nil)))))
      (pss_one (ps_expr (pe_bm PySem.F.plainAttrs_list PySem.F.slot_list_append PySem.F.type_list_append mt_append (pv 7) (pa_cons (pv 6) pa_nil)))))))
      (pss_one (ps_ret (pe_callTy call_tuple_of (by rfl) T.b_tuple (by decide +kernel) (pa_cons (pv 7) pa_nil))))))), ?_⟩
    refine q_asg (ev_var rfl) fun H0 X0 => ?_
    refine ⟨Nat.zero_le _, fun L hL => ?_⟩
    have S0 : Same H (upd H0 L (.lst [])) := Same.new' X0 hL
    have hL0 : H L = none := fresh_back X0 hL
    refine ⟨_, rfl, ru, _, rfl, SqT.of (S0 _ _ hru), for_it walk_enumT (fun i σ H' => ∃ v8 v9 v10, σ = [some (.ref ru), some (.ref ma), some (.ref ot), some (.ref me), some sv, some (.bl home), some (.bl (mb rules made others memos same home i)), some (.ref L), v8, v9, v10] ∧ Same H H' ∧ H' L = some (.lst ((mL rules made others memos same home i).map V.bl)))
      ⟨none, none, none, rfl, S0, upd_same⟩ (fun i σ H' _ ⟨_, _, _, _, S, _⟩ => SqT.of (S _ _ hru)) ?_ ?_⟩
    · rintro i x σ H' H'' hi ⟨v8, v9, v10, rfl, S, hLl⟩ ⟨T', x1, y1, rfl, hT, rfl, e1, e2⟩
      obtain ⟨b, hb, rfl⟩ := at_str e2
      cases e1
      have hi' : i < rules.length := by simpa using hi
      have hTn : H T' = none := S.free hT
      have S2 : Same H (upd H' T' (.tup [.int (i : Nat), .str b])) := Same.new S hTn
      have nTL : L ≠ T' := ne_of_none hLl hT
      have hL2 : (upd H' T' (.tup [.int (i : Nat), .str b])) L = some (.lst ((mL rules made others memos same home i).map V.bl)) := (upd_ne nTL).trans hLl
      refine ⟨T', _, rfl, SqT.of upd_same, rfl, _, _, rfl, _, _, rfl, rfl, ?_⟩
      revert S2 hL2
      generalize upd H' T' (.tup [.int (i : Nat), .str b]) = H2
      intro S2 hL2
      have hz : ((mL rules made others memos same home i).map V.bl).length < 100000 := by simp [mL]; omega
      have hbr : rules.getD i "" = b := by rw [List.getD_eq_getElem?_getD, hb]; rfl
      refine ⟨_, rfl, _, _, rfl, rfl, ?_⟩
      refine q_cut (M := fun σ' H' => σ' = [some (.ref ru), some (.ref ma), some (.ref ot), some (.ref me), some sv, some (.bl home), some (.bl (mb rules made others memos same home (i + 1))), some (.ref L), some (.int (i : Nat)), some (.str b), some (.int ((i : Int) + 1))] ∧ Ex H2 H') ?_ ?_
      · have hm : ∀ H3, Ex H2 H3 → ∀ b', mb rules made others memos same home (i + 1) = b' → ([some (.ref ru), some (.ref ma), some (.ref ot), some (.ref me), some sv, some (.bl home), some (.bl b'), some (.ref L), some (.int (i : Nat)), some (.str b), some (.int ((i : Int) + 1))] : L2.St) = [some (.ref ru), some (.ref ma), some (.ref ot), some (.ref me), some sv, some (.bl home), some (.bl (mb rules made others memos same home (i + 1))), some (.ref L), some (.int (i : Nat)), some (.str b), some (.int ((i : Int) + 1))] ∧ Ex H2 H3 := fun H3 X3 b' e => ⟨by rw [e], X3⟩
        have et : EvT (tAnd (tTest (tOp (fun x y H Q => y = V.non ∧ Q (.bl (!decide (x = V.non))) H) (tVar 4) (tC .non))) (tB (tOp (rIxT K) (tVar 4) (tVar 8)))) [some (.ref ru), some (.ref ma), some (.ref ot), some (.ref me), some sv, some (.bl home), some (.bl (mb rules made others memos same home i)), some (.ref L), some (.int (i : Nat)), some (.str b), some (.int ((i : Int) + 1))] H2 (same.getD i false) := by
          rcases hsv with ⟨rfl, rfl⟩ | ⟨sa, rfl, hsa, hsl⟩
          · exact et_is (et_and (b := false) (et_test (ev_op (ev_var rfl) ev_c rv_notN)) (fun q => nomatch q)) rfl
          · exact et_is (et_and (et_test (ev_op (ev_var rfl) ev_c rv_notN)) (fun _ => et_B (ev_op (ev_var rfl) (ev_var rfl) (rv_ixT (st_of (S2 _ _ hsa)) (atI_nat (at_bl (hsl ▸ hi'))))))) rfl
        refine s_if et (fun c H3 X3 => ?_) (fun c H3 X3 => ?_)
        · refine s_asg ev_c fun H4 X4 => hm _ (X3.trans X4) true ?_
          unfold mb mstep
          rw [c]
          rfl
        · have S3 : Same H H3 := S2.trans X3
          refine s_if (et_and (et_test (ev_op (ev_var rfl) (ev_var rfl) (rv_isT (st_of (S3 _ _ hma)) rfl (flat_ints _)))) fun _ => et_test (ev_op (ev_var rfl) (ev_var rfl) (rv_isT (st_of (S3 _ _ hot)) rfl (flat_ints _)))) (fun d H4 X4 => ?_) (fun d H4 X4 => ?_)
          · rw [inV_ints, inV_ints] at d
            have S4 : Same H H4 := S3.trans X4
            refine s_if (et_test (ev_op (ev_var rfl) ev_c (rv_eq rfl))) (fun r H5 X5 => ?_) (fun r H5 X5 => ?_)
            · refine s_asg (ev_andV (ev_var rfl) fun _ => ev_op (ev_var rfl) (ev_var rfl) (rv_ixT (st_of ((S4.trans X5) _ _ hme)) (atI_nat (at_bl (hl ▸ hi'))))) fun H6 X6 => hm _ (X3.trans (X4.trans (X5.trans X6))) _ ?_
              have r' : b = "itself" := by simpa using r
              conv => lhs; unfold mb mstep lvl
              rw [c, d, hbr, if_pos rfl, if_pos r', Bool.false_or, Bool.and_comm]
            · refine s_asg (ev_andV (ev_op (ev_var rfl) ev_c (rv_eq rfl)) fun _ => ev_op (ev_var rfl) (ev_var rfl) (rv_ixT (st_of ((S4.trans X5) _ _ hme)) (atI_nat (at_bl (hl ▸ hi'))))) fun H6 X6 => hm _ (X3.trans (X4.trans (X5.trans X6))) _ ?_
              have r' : ¬ b = "itself" := by simpa using r
              conv => lhs; unfold mb mstep lvl
              rw [c, d, hbr, if_pos rfl, if_neg r', Bool.false_or]
              by_cases e : b = "marks"
              · subst e
                simp
              · rw [if_neg e]
                simp [e]
          · rw [inV_ints, inV_ints] at d
            have S4 : Same H H4 := S3.trans X4
            refine s_when (et_or (et_test (ev_op (ev_var rfl) (ev_var rfl) (rv_isT (st_of (S4 _ _ hma)) rfl (flat_ints _)))) fun _ => et_test (ev_op (ev_var rfl) (ev_var rfl) (rv_isT (st_of (S4 _ _ hot)) rfl (flat_ints _)))) (fun r H5 X5 => ?_) (fun r H5 X5 => ?_)
            · rw [inV_ints, inV_ints] at r
              refine s_asg ev_c fun H6 X6 => hm _ (X3.trans (X4.trans (X5.trans X6))) false ?_
              conv => lhs; unfold mb mstep lvl
              rw [c, d, r]
              simp
            · rw [inV_ints, inV_ints] at r
              refine hm _ (X3.trans (X4.trans X5)) _ ?_
              conv => lhs; unfold mb mstep lvl
              rw [c, d, r]
              simp
      · rintro σ' H3 ⟨rfl, X3⟩
        refine s_app (X3 _ _ hL2) (ev_var rfl) (ev_var rfl) hz fun H4 X4 => ⟨_, _, _, rfl, Same.new ((S2.trans X3).trans X4) hL0, ?_⟩
        rw [upd_same, mL_succ, List.map_append]
        rfl
    · rintro σ H' ⟨v8, v9, v10, rfl, S, hLl⟩
      refine ⟨_, rfl, L, _, rfl, .inl ⟨SqL.of hLl, fun p hp => ?_⟩⟩
      refine k _ _ (Same.new' S hp) (S.free hp) ?_
      rw [upd_same]
      simp
end
end K49

namespace K49
open PySem L2 Way Evl
/-- the draws' source at s, drawn from at most k times -/
def Src (H : Hp) (s : Addr) (k : Nat) : Prop := ∃ a b c : Int, H s = some (.lst [.int a, .int b, .int c]) ∧ 0 ≤ b ∧ b < 999983 ∧ 0 ≤ c ∧ c ≤ k
def spSource (K : PySem.W.Frag) : Sp := fun vs H Q _ => ∃ (a : Addr) (ns : List Int) (p : Nat), vs = [.ref a, .int (p : Int)] ∧ SqL K H a (ns.map V.int) ∧ p ≤ 100 ∧ ∀ H' s, Same H H' → H s = none → Src H' s 0 → Q (.ref s) H'
def spDraw : Sp := fun vs H Q _ => ∃ (s : Addr) (m : Int) (k : Nat), vs = [.ref s, .int m] ∧ Src H s k ∧ k ≤ 10000 ∧ 0 < m ∧ m ≤ 1000 ∧ ∀ H' d, Kp s H H' → Src H' s (k + 1) → 0 ≤ d → d < m → Q (.int d) H'
section
variable {P : Program} {w : World} {K : PySem.W.Frag} {mg : Str → Option Value} {base : Heap}
theorem ok_source (T : Txt K mg) : FnOk P w K mg base CX0 1 T.f_source T.d_source P_source (spSource K) := by
  refine T.F_source.ok sc_source (fun vs H Q E h => ?_) (fun cdv A outer s H vs Q E hr h => ?_)
  · obtain ⟨a, ns, p, rfl, _⟩ := h
    rfl
  · obtain ⟨a, ns, p, rfl, hS, hp, k⟩ := h
    refine ⟨_, (pss_cons (ps_set (i := 2) sc_source.nd rfl (Or.inl rfl) (pe_ifExp (pt_cmpR op_lt (pv 1) (pe_callB call_len_seq (by rfl) T.b_len (by decide +kernel) (pa_cons (pv 0) pa_nil)) (nomark _)) (pe_ix ix_list (pv 0) (pv 1) (fun _ _ => rfl)) pe_int))
      (pss_cons (ps_set (i := 3) sc_source.nd rfl (Or.inl rfl) (pe_callB call_abs (by rfl) T.b_abs (by decide +kernel) (pa_cons (pe_callTy call_int1 (by rfl) T.b_int (by decide +kernel) (pa_cons (pv 2) pa_nil)) pa_nil)))
      (pss_one (ps_ret (pe_lst (pa_cons (pe_ifExp (pt_cmpR op_ge (pv 3) (pe_op op_pow pe_int pe_int) (nomark _)) (pv 3) pe_int) (pa_cons (pe_op op_mod (pe_callTy call_int1 (by rfl) T.b_int (by decide +kernel) (pa_cons (pe_op op_add (pe_op op_add (pe_op op_add (pe_op op_mul (pv 3) pe_int) (pe_op op_mul pe_int (pv 1))) pe_int) (pe_callTy call_int1 (by rfl) T.b_int (by decide +kernel) (pa_cons (pe_cmpR op_lt (pv 2) pe_int (nomark _)) pa_nil))) pa_nil)) pe_int) (pa_cons pe_int pa_nil)))))))), ?_⟩
    refine q_asg (v := .int (ns.getD p 0)) (ev_if (et_test (ev_op (ev_var rfl) (ev_cb (ea_cons (ev_var rfl) ea_nil) (rc_lenL hS)) rv_I0)) (fun c => ev_op (ev_var rfl) (ev_var rfl) (rv_ixL hS (atI_nat ?_))) (fun c => ev_is ev_c ?_)) fun H1 X1 => ?_
    · have c' : p < ns.length := by simpa using c
      rw [List.getElem?_map, List.getD_eq_getElem?_getD, List.getElem?_eq_getElem c']
      rfl
    · have c' : ¬ p < ns.length := by simpa using c
      rw [List.getD_eq_getElem?_getD, List.getElem?_eq_none (by omega)]
      rfl
    · generalize ns.getD p 0 = cell
      refine q_asg (v := .int (if cell < 0 then -cell else cell)) (ev_cb (ea_cons (ev_cb (ea_cons (ev_var rfl) ea_nil) (fun H2 _ _ q => .inl ⟨_, rfl, q H2 (Ex.refl H2)⟩)) ea_nil) (fun H2 _ _ q => ⟨_, rfl, q H2 (Ex.refl H2)⟩)) fun H2 X2 => ?_
      generalize (if cell < 0 then -cell else cell) = size
      have h999 : (0 : Int) < 999983 := by decide
      refine s_retL (el_lst (vs := [.int (if size ≥ 10 ^ 18 then size else 0), .int ((size * 31 + 7919 * (p : Int) + 11 + (if decide (cell < 0) = true then 1 else 0)) % 999983), .int 0]) (ea_cons (ev_if (et_test (ev_op (ev_var rfl) (ev_op ev_c ev_c (rv_I ⟨by decide, by decide, by decide⟩)) rv_I0)) (fun c => ev_is (ev_var rfl) ?_) (fun c => ev_is ev_c ?_))
        (ea_cons (ev_op (ev_cb (ea_cons (ev_op (ev_op (ev_op (ev_op (ev_var rfl) ev_c (rv_I (.inr (by decide)))) (ev_op ev_c (ev_var rfl) (rv_I (.inl (by decide)))) rv_I0) ev_c rv_I0) (ev_cb (ea_cons (ev_op (ev_var rfl) ev_c rv_I0) ea_nil) (fun H3 _ _ q => .inr ⟨_, rfl, q H3 (Ex.refl H3)⟩)) rv_I0) ea_nil) (fun H3 _ _ q => .inl ⟨_, rfl, q H3 (Ex.refl H3)⟩)) ev_c (rv_I h999)) (ea_cons ev_c ea_nil))) (by show 3 ≤ 100000; decide))
        fun q H3 hq X3 h3 => k _ _ (Ex.trans X1 (Ex.trans X2 X3)) (fresh_back (Ex.trans X1 X2) hq) ⟨_, _, _, h3, Int.emod_nonneg _ (by decide), Int.emod_lt_of_pos _ h999, Int.le_refl _, Int.le_refl _⟩
      · have c' : size ≥ 10 ^ 18 := by simpa using c
        rw [if_pos c']
      · have c' : ¬ size ≥ 10 ^ 18 := by simpa using c
        rw [if_neg c']
end
def spOf : Sp := fun vs H Q _ => ∃ (s l : Addr) (xs : List V) (k : Nat), vs = [.ref s, .ref l] ∧ Src H s k ∧ k ≤ 10000 ∧ H l = some (.lst xs) ∧ l ≠ s ∧ 0 < xs.length ∧ xs.length ≤ 1000 ∧ ∀ H' v, v ∈ xs → Kp s H H' → Src H' s (k + 1) → Q v H'
def spMade : Sp := fun vs H Q _ => ∃ (s : Addr) (n k : Nat), vs = [.ref s, .int (n : Int)] ∧ Src H s k ∧ k ≤ 5000 ∧ n ≤ 1000 ∧ ∀ H' p (xs : List Int), Kp s H H' → Src H' s (k + n) → H p = none → H' p = some (.tup (xs.map V.int)) → Q (.ref p) H'
def spFlags : Sp := fun vs H Q _ => ∃ (s : Addr) (n k : Nat), vs = [.ref s, .int (n : Int)] ∧ Src H s k ∧ k ≤ 5000 ∧ n ≤ 1000 ∧ ∀ H' p (xs : List Bool), Kp s H H' → Src H' s (k + n) → H p = none → H' p = some (.tup (xs.map V.bl)) → xs.length = n → Q (.ref p) H'
theorem Src.mono {H H' : Hp} {s : Addr} {k : Nat} (h : Src H s k) (e : Ex H H') : Src H' s k := let ⟨a, b, c, h1, r⟩ := h; ⟨a, b, c, e _ _ h1, r⟩
theorem Src.le {H : Hp} {s : Addr} {k j : Nat} (h : Src H s k) (e : k ≤ j) : Src H s j := let ⟨a, b, c, h1, r1, r2, r3, r4⟩ := h; ⟨a, b, c, h1, r1, r2, r3, by omega⟩
theorem Src.upd {H : Hp} {s p : Addr} {k : Nat} {o : HO} (h : Src H s k) (e : p ≠ s) : Src (upd H p o) s k := let ⟨a, b, c, h1, r⟩ := h; ⟨a, b, c, (upd_ne (Ne.symm e)).trans h1, r⟩
theorem Src.ne {H : Hp} {s p : Addr} {k : Nat} (h : Src H s k) (e : H p = none) : p ≠ s := let ⟨_, _, _, h1, _⟩ := h; (ne_of_none h1 e).symm
section
variable {P : Program} {w : World} {K : PySem.W.Frag} {mg : Str → Option Value} {base : Heap}
theorem ok_draw (T : Txt K mg) : FnOk P w K mg base CX0 1 T.f_draw T.d_draw P_draw spDraw := by
  refine T.F_draw.ok sc_draw (fun vs H Q E h => ?_) (fun cdv A outer s H vs Q E hr h => ?_)
  · obtain ⟨s, m, k, rfl, _⟩ := h
    rfl
  · obtain ⟨s, m, k, rfl, ⟨a, b, c, hs, b0, b1, c0, c1⟩, hk, m0, m1, kont⟩ := h
    refine ⟨_, (pss_cons (ps_if (pt_cmpR op_gt (pe_ix ix_list (pv 0) pe_int (fun _ _ => rfl)) pe_int (nomark _)) (pss_cons (ps_set (i := 2) sc_draw.nd rfl (Or.inl rfl) (pe_op op_mod (pe_callTy call_int1 (by rfl) T.b_int (by decide +kernel) (pa_cons (pe_ix ix_list (pv 0) pe_int (fun _ _ => rfl)) pa_nil)) (pv 1)))
      (pss_cons (ps_asg (pe_op op_fdiv (pe_ix ix_list (pv 0) pe_int (fun _ _ => rfl)) (pv 1)) (pg_sub (pv 0) pe_int set_list))
      (pss_one (ps_ret (pv 2))))) pss_nil)
      (pss_cons (ps_asg (pe_op op_add (pe_ix ix_list (pv 0) pe_int (fun _ _ => rfl)) pe_int) (pg_sub (pv 0) pe_int set_list))
      (pss_cons (ps_set (i := 3) sc_draw.nd rfl (Or.inl rfl) (pe_ix ix_list (pv 0) pe_int (fun _ _ => rfl)))
      (pss_cons (ps_asg (pe_op op_mod (pe_callTy call_int1 (by rfl) T.b_int (by decide +kernel) (pa_cons (pe_op op_add (pe_op op_mul (pe_op op_add (pe_ix ix_list (pv 0) pe_int (fun _ _ => rfl)) (pe_op op_mul pe_int (pv 3))) (pe_op op_add (pe_op op_add (pe_ix ix_list (pv 0) pe_int (fun _ _ => rfl)) (pe_op op_mul pe_int (pv 3))) pe_int)) (pe_op op_mul pe_int (pv 3))) pa_nil)) pe_int) (pg_sub (pv 0) pe_int set_list))
      (pss_one (ps_ret (pe_op op_mod (pe_callTy call_int1 (by rfl) T.b_int (by decide +kernel) (pa_cons (pe_op op_fdiv (pe_ix ix_list (pv 0) pe_int (fun _ _ => rfl)) pe_int) pa_nil)) (pv 1)))))))), ?_⟩
    refine q_when (et_test (ev_op (ev_op (ev_var rfl) ev_c (rv_ixL (v := .int a) (sq_of hs) rfl)) ev_c rv_I0)) (fun q H1 X1 => ?_) (fun q H1 X1 => ?_)
    · have h1 := X1 _ _ hs
      refine q_asg (v := .int (a % m)) (ev_op (ev_cb (ea_cons (ev_op (ev_var rfl) ev_c (rv_ixL (v := .int a) (sq_of h1) rfl)) ea_nil) (fun H2 _ _ q => .inl ⟨_, rfl, q H2 (Ex.refl H2)⟩)) (ev_var rfl) (rv_I m0)) fun H2 X2 => ?_
      have h2 := X2 _ _ h1
      refine q_setL (j := 0) h2 (v := .int (a / m)) (ev_op (ev_op (ev_var rfl) ev_c (rv_ixL (v := .int a) (sq_of h2) rfl)) (ev_var rfl) (rv_I ⟨m0, by omega⟩)) (ev_var rfl) ev_c (by show 0 < 3; decide) fun H3 X3 => ?_
      refine s_ret (ev_var rfl) fun H4 X4 => ?_
      exact kont _ _ (Kp.trans (Kp.set (Kp.of (Ex.trans X1 (Ex.trans X2 X3)))) (Kp.of X4)) ⟨_, _, _, X4 _ _ upd_same, b0, b1, c0, by omega⟩ (Int.emod_nonneg _ (by omega)) (Int.emod_lt_of_pos _ m0)
    · have h1 := X1 _ _ hs
      refine q_setL (j := 2) h1 (v := .int (c + 1)) (ev_op (ev_op (ev_var rfl) ev_c (rv_ixL (v := .int c) (sq_of h1) rfl)) ev_c rv_I0) (ev_var rfl) ev_c (by show 2 < 3; decide) fun H2 X2 => ?_
      refine q_asg (v := .int (c + 1)) (ev_op (ev_var rfl) ev_c (rv_ixL (sq_of upd_same) rfl)) fun H3 X3 => ?_
      have h3 := X3 _ _ upd_same
      have h999 : (0 : Int) < 999983 := by decide
      refine q_setL (j := 1) h3 (v := .int (((b + 10007 * (c + 1)) * (b + 313 * (c + 1) + 17) + 5 * (c + 1)) % 999983)) (ev_op (ev_cb (ea_cons (ev_op (ev_op (ev_op (ev_op (ev_var rfl) ev_c (rv_ixL (v := .int b) (sq_of h3) rfl)) (ev_op ev_c (ev_var rfl) (rv_I (.inl (by decide)))) rv_I0) (ev_op (ev_op (ev_op (ev_var rfl) ev_c (rv_ixL (v := .int b) (sq_of h3) rfl)) (ev_op ev_c (ev_var rfl) (rv_I (.inl (by decide)))) rv_I0) ev_c rv_I0) (rv_I (.inl ⟨by omega, by omega⟩))) (ev_op ev_c (ev_var rfl) (rv_I (.inl (by decide)))) rv_I0) ea_nil) (fun H2 _ _ q => .inl ⟨_, rfl, q H2 (Ex.refl H2)⟩)) ev_c (rv_I h999)) (ev_var rfl) ev_c (by show 1 < 3; decide) fun H4 X4 => ?_
      generalize hb' : ((b + 10007 * (c + 1)) * (b + 313 * (c + 1) + 17) + 5 * (c + 1)) % 999983 = b'
      have b0' : 0 ≤ b' := hb' ▸ Int.emod_nonneg _ (by decide)
      have b1' : b' < 999983 := hb' ▸ Int.emod_lt_of_pos _ h999
      refine s_ret (v := .int (b' / 7 % m)) (ev_op (ev_cb (ea_cons (ev_op (ev_op (ev_var rfl) ev_c (rv_ixL (v := .int b') (sq_of upd_same) rfl)) ev_c (rv_I ⟨by decide, by decide⟩)) ea_nil) (fun H2 _ _ q => .inl ⟨_, rfl, q H2 (Ex.refl H2)⟩)) (ev_var rfl) (rv_I m0)) fun H5 X5 => ?_
      exact kont _ _ (Kp.trans (Kp.set (Kp.trans (Kp.set (Kp.of (Ex.trans X1 X2))) (Kp.of (Ex.trans X3 X4)))) (Kp.of X5)) ⟨_, _, _, X5 _ _ upd_same, b0', b1', by omega, by omega⟩ (Int.emod_nonneg _ (by omega)) (Int.emod_lt_of_pos _ m0)
theorem ok_of (T : Txt K mg) : FnOk P w K mg base CX0 2 T.f_of T.d_of P_of spOf := by
  have G_draw := ok_draw (P := P) (w := w) (base := base) T
  refine T.F_of.ok sc_of (fun vs H Q E h => ?_) (fun cdv A outer s H vs Q E hr h => ?_)
  · obtain ⟨s, l, xs, k, rfl, _⟩ := h
    rfl
  · obtain ⟨s, l, xs, k, rfl, hS, hk, hl, ne, x0, x1, kont⟩ := h
    refine ⟨_, (pss_one (ps_ret (pe_ix ix_list (pv 1) (pe_call G_draw hr (by rfl) T.g_draw T.F_draw.kp T.B_draw .nil pass0 (pa_cons (pv 0) (pa_cons (pe_callB call_len_seq (by rfl) T.b_len (by decide +kernel) (pa_cons (pv 1) pa_nil)) pa_nil))) (fun _ _ => rfl)))), ?_⟩
    refine ⟨_, rfl, _, rfl, _, rfl, l, _, rfl, .inl (SqL.of hl), s, _, k, rfl, hS, hk, by omega, by omega, fun H' d K1 S1 d0 d1 => ?_⟩
    have hd : d.toNat < xs.length := by omega
    refine ⟨l, _, _, _, rfl, rfl, SqL.of (K1 _ _ ne hl), at_of (j := d.toNat) (by omega) (List.getElem?_eq_getElem hd), ?_⟩
    exact kont _ _ (List.getElem_mem hd) K1 S1
theorem ok_made (T : Txt K mg) : FnOk P w K mg base CX0 2 T.f_made T.d_made P_made spMade := by
  have G_draw := ok_draw (P := P) (w := w) (base := base) T
  refine T.F_made.ok sc_made (fun vs H Q E h => ?_) (fun cdv A outer s H vs Q E hr h => ?_)
  · obtain ⟨s, n, k, rfl, _⟩ := h
    rfl
  · obtain ⟨s, n, k, rfl, hS, hk, hn, kont⟩ := h
    refine ⟨_, (pss_one (ps_ret (pe_callTy call_tuple_of (by rfl) T.b_tuple (by decide +kernel) (pa_cons (pe_lc (own := [("_law_travel", 2)]) (g := gName 2) (by rfl) sc_made.nd (pi_range2 (by rfl) T.b_range (pa_cons pe_int (pa_cons (pe_op op_add (pv 1) pe_int) pa_nil))) (blkOk_by (own := [("_law_travel", 2)]) (N := N_made) (sc := defScope s_made) (by decide +kernel)) (fun _ _ _ _ _ => (pg_name (i := 2) sc_made.nd rfl (Or.inl rfl))) (fun _ _ _ _ _ => (pts_one (pt_cmpR op_gt (pe_call G_draw hr (by rfl) T.g_draw T.F_draw.kp T.B_draw .nil pass0 (pa_cons (pv 0) (pa_cons pe_int pa_nil))) pe_int (nomark _)))) (fun _ _ _ _ _ => (pv 2))) pa_nil)))), ?_⟩
    refine ⟨_, rfl, _, _, rfl, rfl, 1, (n : Int) + 1, rfl, ⟨by omega, by omega, by omega, by omega⟩, fun D hD => lc_range (lo := 1) (n := ((n : Int) + 1 - 1).toNat) (fun i H' => ∃ xs : List Int, Kp s H H' ∧ Src H' s (k + i) ∧ H' D = some (.lst (xs.map V.int)) ∧ xs.length ≤ i) ?_ ?_ ?_⟩
    · exact ⟨[], Kp.new (Kp.refl s H) hD, hS.upd (hS.ne hD), upd_same, Nat.le_refl _⟩
    · rintro i H' hi ⟨xs, K1, S1, h1, l1⟩
      have nD := hS.ne hD
      refine ⟨rfl, _, rfl, s, 4, k + i, rfl, S1, by omega, by decide, by decide, fun H2 d K2 S2 d0 d1 => ?_⟩
      refine ⟨_, _, rfl, rfl, _, rfl, ?_⟩
      have h2 := K2 _ _ nD h1
      refine ite2 (fun _ => ?_) (fun _ => ?_)
      · refine ⟨_, rfl, _, h2, by simp; exact small1000 (by omega), xs ++ [1 + (i : Int)], Kp.new (Kp.trans K1 K2) hD, S2.upd nD, ?_, ?_⟩
        · rw [upd_same, List.map_append]; rfl
        · simp; omega
      · exact ⟨xs, Kp.trans K1 K2, S2, h2, by omega⟩
    · rintro H' ⟨xs, K1, S1, h1, l1⟩
      have en : ((n : Int) + 1 - 1).toNat = n := by omega
      rw [en] at S1
      have nD := hS.ne hD
      refine ⟨D, _, rfl, .inl ⟨SqL.of h1, fun p hp => ?_⟩⟩
      have np := S1.ne hp
      exact kont _ _ xs (Kp.new K1 (K1.free np hp)) (S1.upd np) (K1.free np hp) upd_same
theorem ok_flags (T : Txt K mg) : FnOk P w K mg base CX0 2 T.f_flags T.d_flags P_flags spFlags := by
  have G_draw := ok_draw (P := P) (w := w) (base := base) T
  refine T.F_flags.ok sc_flags (fun vs H Q E h => ?_) (fun cdv A outer s H vs Q E hr h => ?_)
  · obtain ⟨s, n, k, rfl, _⟩ := h
    rfl
  · obtain ⟨s, n, k, rfl, hS, hk, hn, kont⟩ := h
    refine ⟨_, (pss_one (ps_ret (pe_callTy call_tuple_of (by rfl) T.b_tuple (by decide +kernel) (pa_cons (pe_lc (own := [("_law_travel", 2)]) (g := gName 2) (by rfl) sc_flags.nd (pi_range1 (by rfl) T.b_range (pa_cons (pv 1) pa_nil)) (blkOk_by (own := [("_law_travel", 2)]) (N := N_flags) (sc := defScope s_flags) (by decide +kernel)) (fun _ _ _ _ _ => (pg_name (i := 2) sc_flags.nd rfl (Or.inl rfl))) (fun _ _ _ _ _ => pts_nil) (fun _ _ _ _ _ => (pe_cmpR op_gt (pe_call G_draw hr (by rfl) T.g_draw T.F_draw.kp T.B_draw .nil pass0 (pa_cons (pv 0) (pa_cons pe_int pa_nil))) pe_int (nomark _)))) pa_nil)))), ?_⟩
    refine ⟨_, rfl, (n : Int), rfl, by omega, by omega, fun D hD => lc_range (lo := 0) (n := (n : Int).toNat) (fun i H' => ∃ xs : List Bool, Kp s H H' ∧ Src H' s (k + i) ∧ H' D = some (.lst (xs.map V.bl)) ∧ xs.length = i) ?_ ?_ ?_⟩
    · exact ⟨[], Kp.new (Kp.refl s H) hD, hS.upd (hS.ne hD), upd_same, rfl⟩
    · rintro i H' hi ⟨xs, K1, S1, h1, l1⟩
      have nD := hS.ne hD
      refine ⟨rfl, ?_⟩
      refine ⟨_, rfl, s, 3, k + i, rfl, S1, by omega, by decide, by decide, fun H2 d K2 S2 d0 d1 => ?_⟩
      have h2 := K2 _ _ nD h1
      refine ⟨_, _, rfl, rfl, _, h2, by simp; exact small1000 (by omega), xs ++ [decide (d > 0)], Kp.new (Kp.trans K1 K2) hD, S2.upd nD, ?_, ?_⟩
      · rw [upd_same, List.map_append]; rfl
      · simp; omega
    · rintro H' ⟨xs, K1, S1, h1, l1⟩
      have en : (n : Int).toNat = n := by omega
      rw [en] at S1 l1
      have nD := hS.ne hD
      refine ⟨D, _, rfl, .inl ⟨SqL.of h1, fun p hp => ?_⟩⟩
      have np := S1.ne hp
      exact kont _ _ xs (Kp.new K1 (K1.free np hp)) (S1.upd np) (K1.free np hp) upd_same l1
end
end K49

namespace K49
open PySem L2 Way Evl
def rule3 (r : Str) : Prop := r = "itself" ∨ r = "marks" ∨ r = "never"
def spLevel : Sp := fun vs H Q _ => ∃ (rule : Str) (both one memo before : Bool), vs = [.str rule, .bl both, .bl one, .bl memo, .bl before] ∧ rule3 rule ∧ ∀ H', Same H H' → Q (.bl (lvl rule both one memo before)) H'
def spDue : Sp := fun vs H Q _ => ∃ (ru ma ot me sa : Addr) (rules : List Str) (made others : List Int) (memos same : List Bool) (home : Bool),
  vs = [.ref ru, .ref ma, .ref ot, .ref me, .ref sa, .bl home] ∧ H ru = some (.tup (rules.map V.str)) ∧ H ma = some (.tup (made.map V.int)) ∧ H ot = some (.tup (others.map V.int)) ∧ H me = some (.tup (memos.map V.bl)) ∧ H sa = some (.tup (same.map V.bl)) ∧
  same.length = rules.length ∧ memos.length = rules.length ∧ rules.length ≤ 1000 ∧ (∀ r ∈ rules, rule3 r) ∧ NewFlags H (mL rules made others memos same home rules.length) Q
section
variable {P : Program} {w : World} {K : PySem.W.Frag} {mg : Str → Option Value} {base : Heap}
theorem ok_level (T : Txt K mg) : FnOk P w K mg base CX0 1 T.f_level T.d_level P_level spLevel := by
  refine T.F_level.ok sc_level (fun vs H Q E h => ?_) (fun cdv A outer s H vs Q E hr h => ?_)
  · obtain ⟨rule, both, one, memo, before, rfl, _⟩ := h
    rfl
  · obtain ⟨rule, both, one, memo, before, rfl, h3, k⟩ := h
    refine ⟨_, (pss_cons (ps_if (pt_not (pt_val (pv 1))) (pss_one (ps_ret (pe_and (pv 4) (pe_one (pe_not (pv 2)))))) pss_nil)
      (pss_one (ps_ret (pe_dget (hu_of hr) (pe_disp (pps_cons pe_str (pe_and (pv 3) (pe_one (pv 4))) (pps_cons pe_str (pv 3) (pps_cons pe_str pe_bl pps_nil))) (by rfl) (by rfl) (fun z => by cases z) (by decide)) (pv 0) (fun _ _ => rfl))))), ?_⟩
    refine q_when (et_not (et_B (ev_var rfl))) (fun c H1 X1 => ?_) (fun c H1 X1 => ?_)
    · have c' : both = false := by simpa using c
      refine s_ret (ev_andV (ev_var rfl) fun _ => ev_notV (ev_var rfl)) fun H2 X2 => ?_
      have e := k H2 (X1.trans X2)
      unfold lvl at e
      rw [if_neg (by rw [c']; decide)] at e
      exact e
    · have c' : both = true := by simpa using c
      intro p hp
      refine (ev_andV (ev_var rfl) fun _ => ev_var rfl) _ (Ex.refl _) _ fun H2 X2 => ?_
      refine ⟨_, rfl, ?_⟩
      have hd := X2 _ _ (upd_same (H := H1) (a := p) (o := .dK []))
      refine ⟨hd, [(.inr "itself", .bl (memo && before)), (.inr "marks", .bl memo), (.inr "never", .bl false)], rfl, by show 3 ≤ 15; decide, ?_⟩
      have g : valV (mergeK [] [(.inr "itself", .bl (memo && before)), (.inr "marks", .bl memo), (.inr "never", .bl false)]) (.inr rule) = some (.bl (lvl rule both one memo before)) := by
        rw [c']
        rcases h3 with rfl | rfl | rfl <;> rfl
      exact ⟨_, rfl, p, .bl (lvl rule both one memo before), rfl, g ▸ DGet.k (k := .inr rule) upd_same, k _ (Same.new (X1.trans (Same.trans (Ex.new hp) X2)) (fresh_back X1 hp))⟩
theorem ok_due (T : Txt K mg) : FnOk P w K mg base CX0 2 T.f_due T.d_due P_due spDue := by
  have G_level := ok_level (P := P) (w := w) (base := base) T
  refine T.F_due.ok sc_due (fun vs H Q E h => ?_) (fun cdv A outer s H vs Q E hr h => ?_)
  · obtain ⟨ru, ma, ot, me, sa, rules, made, others, memos, same, home, rfl, _⟩ := h
    rfl
  · obtain ⟨ru, ma, ot, me, sa, rules, made, others, memos, same, home, rfl, hru, hma, hot, hme, hsa, hsl, hl, hlen, h3, k⟩ := h
    refine ⟨_, (pss_cons (ps_par (i := 6) (j := 7) (by rfl) sc_due.nd rfl rfl (by decide) rfl rfl (pa_cons (pe_lst pa_nil) (pa_cons (pv 5) pa_nil)) (by rfl))
      (pss_cons (ps_for PassesOwn.never rfl (Way.pi_enumT (by rfl) T.b_enumerate (pa_cons (pv 0) pa_nil)) (pg_tup rfl (pgs_cons (pg_name (i := 8) sc_due.nd rfl (Or.inl rfl)) (pgs_cons (pg_name (i := 9) sc_due.nd rfl (Or.inl rfl)) pgs_nil))) (pss_cons (ps_par (i := 10) (j := 11) (by rfl) sc_due.nd rfl rfl (by decide) rfl rfl (pa_cons (pe_cmpR op_in_seq (pe_op op_add (pv 8) pe_int) (pv 1) (by rfl)) (pa_cons (pe_cmpR op_in_seq (pe_op op_add (pv 8) pe_int) (pv 2) (by rfl)) pa_nil)) (by rfl))
      (pss_cons (ps_set (i := 7) sc_due.nd rfl (Or.inl rfl) (pe_or (pe_ix ix_tup (pv 4) (pv 8) (fun _ _ => rfl)) (pe_one (pe_call G_level hr (by rfl) T.g_level T.F_level.kp T.B_level .nil pass0 (pa_cons (pv 9) (pa_cons (pe_and (pv 10) (pe_one (pv 11))) (pa_cons (pe_or (pv 10) (pe_one (pv 11))) (pa_cons (pe_ix ix_tup (pv 3) (pv 8) (fun _ _ => rfl)) (pa_cons (pv 7) pa_nil)))))))))
      (pss_one (ps_expr (pe_bm PySem.F.plainAttrs_list PySem.F.slot_list_append PySem.F.type_list_append mt_append (pv 6) (pa_cons (pv 7) pa_nil)))))))
      (pss_one (ps_ret (pe_callTy call_tuple_of (by rfl) T.b_tuple (by decide +kernel) (pa_cons (pv 6) pa_nil)))))), ?_⟩
    refine ⟨Nat.zero_le _, fun L hL => ⟨_, rfl, _, _, rfl, ?_⟩⟩
    have S0 : Same H (upd H L (.lst [])) := Same.new (Same.refl H) hL
    refine ⟨_, rfl, ru, _, rfl, SqT.of (S0 _ _ hru), for_it walk_enumT (fun i σ H' => ∃ v8 v9 v10 v11, σ = [some (.ref ru), some (.ref ma), some (.ref ot), some (.ref me), some (.ref sa), some (.bl home), some (.ref L), some (.bl (mb rules made others memos same home i)), v8, v9, v10, v11] ∧ Same H H' ∧ H' L = some (.lst ((mL rules made others memos same home i).map V.bl)))
      ⟨none, none, none, none, rfl, S0, upd_same⟩ (fun i σ H' _ ⟨_, _, _, _, _, S, _⟩ => SqT.of (S _ _ hru)) ?_ ?_⟩
    · rintro i x σ H' H'' hi ⟨v8, v9, v10, v11, rfl, S, hLl⟩ ⟨T', x1, y1, rfl, hT, rfl, e1, e2⟩
      obtain ⟨b, hb, rfl⟩ := at_str e2
      cases e1
      have hi' : i < rules.length := by simpa using hi
      have hTn : H T' = none := S.free hT
      have S2 : Same H (upd H' T' (.tup [.int (i : Nat), .str b])) := Same.new S hTn
      have nTL : L ≠ T' := ne_of_none hLl hT
      have hL2 : (upd H' T' (.tup [.int (i : Nat), .str b])) L = some (.lst ((mL rules made others memos same home i).map V.bl)) := (upd_ne nTL).trans hLl
      refine ⟨T', _, rfl, SqT.of upd_same, rfl, _, _, rfl, _, _, rfl, rfl, ?_⟩
      revert S2 hL2
      generalize upd H' T' (.tup [.int (i : Nat), .str b]) = H2
      intro S2 hL2
      have hz : ((mL rules made others memos same home i).map V.bl).length < 100000 := by simp [mL]; omega
      have hbr : rules.getD i "" = b := by rw [List.getD_eq_getElem?_getD, hb]; rfl
      have h3b : rule3 b := h3 b (List.mem_of_getElem? hb)
      refine q_par (ea_cons (ev_op (ev_op (ev_var rfl) ev_c rv_I0) (ev_var rfl) (rv_isT (st_of (S2 _ _ hma)) rfl (flat_ints _))) (ea_cons (ev_op (ev_op (ev_var rfl) ev_c rv_I0) (ev_var rfl) (rv_isT (st_of (S2 _ _ hot)) rfl (flat_ints _))) ea_nil)) fun H3 X3 => ?_
      have S3 : Same H H3 := S2.trans X3
      refine q_asg (v := .bl (mb rules made others memos same home (i + 1))) (ev_is (ev_orV (ev_op (ev_var rfl) (ev_var rfl) (rv_ixT (st_of (S3 _ _ hsa)) (atI_nat (at_bl (hsl ▸ hi'))))) fun _ =>
        ev_call (ea_cons (ev_var rfl) (ea_cons (ev_andV (ev_var rfl) fun _ => ev_var rfl) (ea_cons (ev_orV (ev_var rfl) fun _ => ev_var rfl) (ea_cons (ev_op (ev_var rfl) (ev_var rfl) (rv_ixT (st_of (S3 _ _ hme)) (atI_nat (at_bl (hl ▸ hi'))))) (ea_cons (ev_var rfl) ea_nil)))))
          (fun H4 X4 Q' q' E' => ⟨b, _, _, _, _, rfl, h3b, fun H5 X5 => q' H5 X5⟩)) ?_) fun H4 X4 => ?_
      · rw [inV_ints, inV_ints]
        conv => rhs; unfold mb mstep
        rw [hbr]
      · refine s_app (X4 _ _ (X3 _ _ hL2)) (ev_var rfl) (ev_var rfl) hz fun H5 X5 => ⟨_, _, _, _, rfl, Same.new ((S3.trans X4).trans X5) hL, ?_⟩
        rw [upd_same, mL_succ, List.map_append]
        rfl
    · rintro σ H' ⟨v8, v9, v10, v11, rfl, S, hLl⟩
      refine ⟨_, rfl, L, _, rfl, .inl ⟨SqL.of hLl, fun p hp => ?_⟩⟩
      refine k _ _ (Same.new' S hp) (S.free hp) ?_
      rw [upd_same]
      simp
end
end K49

namespace K49
open PySem L2 Way Evl
theorem bd_mk {K : PySem.W.Frag} {mg : Str → Option Value} (T : Txt K mg) : ∃ ds, Vals [.non, .bl true] ds ∧ Binds K T.d_meeting P_meeting ds :=
  T.F_meeting.binds0 4 (by decide) rfl fun D doc pm an cdv ct us ks h1 h2 => match us, ks, h1, h2 with
    | [_, _, _, _], [_, _], _, _ => ⟨_, _, _, _, _, _, rfl, rfl, ⟨_, _, _, _, _, _, rfl, rfl, rfl⟩⟩
def gH {α : Type} (us mv ws : List α) : List α := us ++ (mv ++ ws)
def gS {α : Type} (us mv ws : List α) : List α := us ++ (ws ++ mv)
theorem kbH {K : PySem.W.Frag} {mg : Str → Option Value} (T : Txt K mg) : ∃ mv : List Value, KBn K T.d_meeting P_meeting 4 ["home"] (fun us ws => gH us mv ws) (fun vs zs => gH vs [.non] zs) :=
  kbinds0 T.F_meeting 4 ["home"] [("same", .non)] gH (by decide) (by simp) (fun a b c => a.append (b.append c)) fun D doc pm an cdv ct us mv ws h1 h2 h3 => match us, mv, ws, h1, h2, h3 with
    | [_, _, _, _], [_], [_], _, _, _ => ⟨_, _, _, _, _, _, rfl, rfl, rfl⟩
theorem kbS {K : PySem.W.Frag} {mg : Str → Option Value} (T : Txt K mg) : ∃ mv : List Value, KBn K T.d_meeting P_meeting 4 ["same"] (fun us ws => gS us mv ws) (fun vs zs => gS vs [.bl true] zs) :=
  kbinds0 T.F_meeting 4 ["same"] [("home", .bl true)] gS (by decide) (by simp) (fun a b c => a.append (c.append b)) fun D doc pm an cdv ct us mv ws h1 h2 h3 => match us, mv, ws, h1, h2, h3 with
    | [_, _, _, _], [_], [_], _, _, _ => ⟨_, _, _, _, _, _, rfl, rfl, rfl⟩
theorem Same.kp {s : Addr} {H H1 H2 : Hp} (a : Same H H1) (n : H s = none) (k : Kp s H1 H2) : Same H H2 := fun b o h => k b o (ne_of_none h n) (a b o h)
def spLaw (K : PySem.W.Frag) : Sp := fun vs H Q _ => ∃ (a : Addr) (ns : List Int), vs = [.ref a] ∧ SqL K H a (ns.map V.int) ∧ ns.length ≤ 63 ∧ ∀ H', Q (.bl true) H'
section
variable {P : Program} {w : World} {K : PySem.W.Frag} {mg : Str → Option Value} {base : Heap}
theorem ok_law (T : Txt K mg) : FnOk P w K mg base CX0 3 T.f_law T.d_law P_law (spLaw K) := by
  have G_draw := ok_draw (P := P) (w := w) (base := base) T
  have G_of := ok_of (P := P) (w := w) (base := base) T
  have G_made := ok_made (P := P) (w := w) (base := base) T
  have G_flags := ok_flags (P := P) (w := w) (base := base) T
  have G_source := ok_source (P := P) (w := w) (base := base) T
  have G_due := ok_due (P := P) (w := w) (base := base) T
  have G_meeting := ok_meeting (P := P) (w := w) (base := base) T
  obtain ⟨ds, bd_meeting⟩ := bd_mk T
  obtain ⟨mvS, kb_meeting_0⟩ := kbS T
  obtain ⟨mvH, kb_meeting_1⟩ := kbH T
  refine T.F_law.ok sc_law (fun vs H Q E h => ?_) (fun cdv A outer s H vs Q E hr h => ?_)
  · obtain ⟨a, ns, rfl, _⟩ := h
    rfl
  · obtain ⟨a, ns, rfl, hS, hlen, k⟩ := h
    refine ⟨_, (pss_cons (ps_for PassesOwn.never rfl (pi_range1 (by rfl) T.b_range (pa_cons (pe_callB (call_max2 rfl) (by rfl) T.b_max (by decide +kernel) (pa_cons pe_int (pa_cons (pe_callB (call_min2 rfl) (by rfl) T.b_min (by decide +kernel) (pa_cons pe_int (pa_cons (pe_callB call_len_seq (by rfl) T.b_len (by decide +kernel) (pa_cons (pv 0) pa_nil)) pa_nil))) pa_nil))) pa_nil)) (pg_name (i := 1) sc_law.nd rfl (Or.inl rfl)) (pss_cons (ps_set (i := 2) sc_law.nd rfl (Or.inr rfl) (pe_call G_source (hr.mono (by decide)) (by rfl) T.g_source T.F_source.kp T.B_source .nil pass0 (pa_cons (pv 0) (pa_cons (pv 1) pa_nil))))
      (pss_one (ps_for PassesOwn.never rfl (pi_range1 (by rfl) T.b_range (pa_cons pe_int pa_nil)) (pg_name (i := 3) sc_law.nd rfl (Or.inl rfl)) (pss_cons (ps_set (i := 4) sc_law.nd rfl (Or.inl rfl) (pe_op op_add pe_int (pe_call G_draw (hr.mono (by decide)) (by rfl) T.g_draw T.F_draw.kp T.B_draw .nil pass0 (pa_cons (pv 2) (pa_cons pe_int pa_nil)))))
      (pss_cons (ps_set (i := 5) sc_law.nd rfl (Or.inl rfl) (pe_callTy call_tuple_of (by rfl) T.b_tuple (by decide +kernel) (pa_cons (pe_lc (own := [("_law_travel", 16)]) (g := gName 16) (by rfl) sc_law.nd (pi_range1 (by rfl) T.b_range (pa_cons (pv 4) pa_nil)) (blkOk_by (own := [("_law_travel", 16)]) (N := N_law) (sc := defScope s_law) (by decide +kernel)) (fun _ _ _ _ _ => (pg_name (i := 16) sc_law.nd rfl (Or.inl rfl))) (fun _ _ _ _ _ => pts_nil) (fun _ _ _ _ _ => (pe_call G_of hr (by rfl) T.g_of T.F_of.kp T.B_of .nil pass0 (pa_cons (pv 2) (pa_cons (pe_lst (pa_cons pe_str (pa_cons pe_str (pa_cons pe_str (pa_cons pe_str pa_nil))))) pa_nil))))) pa_nil)))
      (pss_cons (ps_par (i := 6) (j := 7) (by rfl) sc_law.nd rfl rfl (by decide) rfl rfl (pa_cons (pe_call G_made hr (by rfl) T.g_made T.F_made.kp T.B_made .nil pass0 (pa_cons (pv 2) (pa_cons (pv 4) pa_nil))) (pa_cons (pe_call G_made hr (by rfl) T.g_made T.F_made.kp T.B_made .nil pass0 (pa_cons (pv 2) (pa_cons (pv 4) pa_nil))) pa_nil)) (by rfl))
      (pss_cut (ps_if (pt_cmpR op_eq (pe_call G_draw (hr.mono (by decide)) (by rfl) T.g_draw T.F_draw.kp T.B_draw .nil pass0 (pa_cons (pv 2) (pa_cons pe_int pa_nil))) pe_int (nomark _)) (pss_one (ps_set (i := 7) sc_law.nd rfl (Or.inl rfl) (pv 6))) pss_nil)
      (pss_cons (ps_par3 (i := 8) (j := 9) (l := 10) (by rfl) sc_law.nd rfl rfl rfl (by decide) (by decide) (by decide) rfl rfl rfl (pa_cons (pe_call G_flags hr (by rfl) T.g_flags T.F_flags.kp T.B_flags .nil pass0 (pa_cons (pv 2) (pa_cons (pv 4) pa_nil))) (pa_cons (pe_call G_flags hr (by rfl) T.g_flags T.F_flags.kp T.B_flags .nil pass0 (pa_cons (pv 2) (pa_cons (pv 4) pa_nil))) (pa_cons (pe_cmpR op_gt (pe_call G_draw (hr.mono (by decide)) (by rfl) T.g_draw T.F_draw.kp T.B_draw .nil pass0 (pa_cons (pv 2) (pa_cons pe_int pa_nil))) pe_int (nomark _)) pa_nil))) (by rfl))
      (pss_cons (ps_set (i := 11) sc_law.nd rfl (Or.inl rfl) (pe_callTy call_tuple_of (by rfl) T.b_tuple (by decide +kernel) (pa_cons (pe_lc (own := [("_law_travel", 16)]) (g := gName 16) (by rfl) sc_law.nd (pi_range1 (by rfl) T.b_range (pa_cons (pv 4) pa_nil)) (blkOk_by (own := [("_law_travel", 16)]) (N := N_law) (sc := defScope s_law) (by decide +kernel)) (fun _ _ _ _ _ => (pg_name (i := 16) sc_law.nd rfl (Or.inl rfl))) (fun _ _ _ _ _ => pts_nil) (fun _ _ _ _ _ => pe_bl)) pa_nil)))
      (pss_cons (ps_set (i := 12) sc_law.nd rfl (Or.inl rfl) (pe_lst (pa_cons (pe_call G_meeting (hr.mono (by decide)) (by rfl) T.g_meeting T.F_meeting.kp bd_meeting.2 bd_meeting.1 pass0 (pa_cons (pv 5) (pa_cons (pv 6) (pa_cons (pv 7) (pa_cons (pv 8) pa_nil))))) (pa_cons (pe_callN G_meeting (hr.mono (by decide)) (by rfl) T.g_meeting T.F_meeting.kp kb_meeting_1 pass0 (pa_cons (pv 5) (pa_cons (pv 6) (pa_cons (pv 7) (pa_cons (pv 8) pa_nil)))) (pk_cons (pv 10) pk_nil)) pa_nil))))
      (pss_cons (ps_set (i := 12) sc_law.nd rfl (Or.inl rfl) (pe_op op_cat (pv 12) (pe_lst (pa_cons (pe_callN G_meeting (hr.mono (by decide)) (by rfl) T.g_meeting T.F_meeting.kp kb_meeting_0 pass0 (pa_cons (pv 5) (pa_cons (pv 6) (pa_cons (pv 7) (pa_cons (pv 8) pa_nil)))) (pk_cons (pv 9) pk_nil)) pa_nil))))
      (pss_cons (ps_set (i := 13) sc_law.nd rfl (Or.inl rfl) (pe_lst (pa_cons (pe_call G_due hr (by rfl) T.g_due T.F_due.kp T.B_due .nil pass0 (pa_cons (pv 5) (pa_cons (pv 6) (pa_cons (pv 7) (pa_cons (pv 8) (pa_cons (pv 11) (pa_cons pe_bl pa_nil))))))) (pa_cons (pe_call G_due hr (by rfl) T.g_due T.F_due.kp T.B_due .nil pass0 (pa_cons (pv 5) (pa_cons (pv 6) (pa_cons (pv 7) (pa_cons (pv 8) (pa_cons (pv 11) (pa_cons (pv 10) pa_nil))))))) pa_nil))))
      (pss_cons (ps_set (i := 13) sc_law.nd rfl (Or.inl rfl) (pe_op op_cat (pv 13) (pe_lst (pa_cons (pe_call G_due hr (by rfl) T.g_due T.F_due.kp T.B_due .nil pass0 (pa_cons (pv 5) (pa_cons (pv 6) (pa_cons (pv 7) (pa_cons (pv 8) (pa_cons (pv 9) (pa_cons pe_bl pa_nil))))))) pa_nil))))
      (pss_one (ps_for PassesOwn.never rfl (pi_zip (by rfl) T.b_zip (pa_cons (pv 13) (pa_cons (pv 12) pa_nil))) (pg_tup rfl (pgs_cons (pg_name (i := 14) sc_law.nd rfl (Or.inl rfl)) (pgs_cons (pg_name (i := 15) sc_law.nd rfl (Or.inl rfl)) pgs_nil))) (pss_cons (ps_if (PW.pt (pw_or (pt_not (pt_val (pe_callB call_isi (by rfl) T.b_isinstance (by decide +kernel) (pa_cons (pv 15) (pa_cons (pe_bltn (v := .ty "tuple") (by rfl) T.b_tuple (by decide +kernel) rfl) pa_nil))))) (pw_or1 (pt_cmpR op_ne (pe_callB call_len_seq (by rfl) T.b_len (by decide +kernel) (pa_cons (pv 15) pa_nil)) (pv 4) (nomark _))))) (pss_one (ps_ret pe_bl)) pss_nil)
      (pss_one (ps_if (PW.pt (pw_or (pt_cmpR (op_neD hr.units) (pe_lc (own := [("_law_flag", 17)]) (g := gName 17) (by rfl) sc_law.nd (pi_tup (pv 15)) (blkOk_by (own := [("_law_flag", 17)]) (N := N_law) (sc := defScope s_law) (by decide +kernel)) (fun _ _ _ _ _ => (pg_name (i := 17) sc_law.nd rfl (Or.inl rfl))) (fun _ _ _ _ _ => (pts_one (pt_not (pt_val (pe_callB (Way.kk_isi (K := K)) (by rfl) T.b_isinstance (by decide +kernel) (pa_cons (pv 17) (pa_cons (pe_bltn (v := .ty "bool") (by rfl) T.b_bool (by decide +kernel) rfl) pa_nil))))))) (fun _ _ _ _ _ => (pv 17))) (pe_lst pa_nil) (nomark _)) (pw_or1 (pt_cmpR (op_neD hr.units) (pv 14) (pv 15) (nomark _))))) (pss_one (ps_ret pe_bl)) pss_nil)))))))))))))))))))
      (pss_one (ps_ret pe_bl))), ?_⟩
    refine q_forR1 (n := if (if (ns.length : Int) < 4 then (ns.length : Int) else 4) > 1 then (if (ns.length : Int) < 4 then (ns.length : Int) else 4) else 1) ?_ ?_ (fun i σ H' => ∃ v1 v2 v3 v4 v5 v6 v7 v8 v9 v10 v11 v12 v13 v14 v15 v16 v17, σ = [some (.ref a), v1, v2, v3, v4, v5, v6, v7, v8, v9, v10, v11, v12, v13, v14, v15, v16, v17] ∧ Same H H')
      (fun H1 X1 => ⟨_, _, _, _, _, _, _, _, _, _, _, _, _, _, _, _, _, rfl, X1⟩) ?_ ?_
    · refine ea_cons (ev_cb (ea_cons ev_c (ea_cons (ev_cb (ea_cons ev_c (ea_cons (ev_cb (ea_cons (ev_var rfl) ea_nil) (rc_lenL hS)) ea_nil)) (z := .int (if (ns.length : Int) < 4 then (ns.length : Int) else 4)) (fun H2 _ _ q => ⟨4, (ns.length : Int), by simp, q H2 (Ex.refl H2)⟩)) ea_nil)) (fun H2 _ _ q => ⟨_, _, rfl, q H2 (Ex.refl H2)⟩)) ea_nil
    · split <;> split <;> constructor <;> omega
    · rintro place σ H0 hp ⟨v1, v2, v3, v4, v5, v6, v7, v8, v9, v10, v11, v12, v13, v14, v15, v16, v17, rfl, S0⟩
      have hp100 : place ≤ 100 := by
        split at hp <;> split at hp <;> omega
      refine ⟨_, rfl, _, rfl, a, ns, place, rfl, S0.seq hS, hp100, fun H1 s X1 hs src => ?_⟩
      have S1 : Same H H1 := S0.trans X1
      have hsH : H s = none := S0.free hs
      refine s_forR1 (n := 3) (ea_cons ev_c ea_nil) (by decide) (fun j σ H' => ∃ v3 v4 v5 v6 v7 v8 v9 v10 v11 v12 v13 v14 v15 v16 v17, σ = [some (.ref a), some (.int (place : Int)), some (.ref s), v3, v4, v5, v6, v7, v8, v9, v10, v11, v12, v13, v14, v15, v16, v17] ∧ Same H H' ∧ Src H' s (30 * j))
        (fun H2 X2 => ⟨_, _, _, _, _, _, _, _, _, _, _, _, _, _, _, rfl, S1.trans X2, src.mono X2⟩) ?_ ?_
      · rintro j σ H2 hj ⟨v3, v4, v5, v6, v7, v8, v9, v10, v11, v12, v13, v14, v15, v16, v17, rfl, S2, src2⟩
        refine ⟨_, rfl, s, 4, 30 * j, rfl, src2, by omega, by decide, by decide, fun H3 d K3 src3 d0 d1 => ?_⟩
        refine ⟨_, _, rfl, rfl, ?_⟩
        obtain ⟨n, en, hn4⟩ : ∃ n : Nat, 1 + d = (n : Int) ∧ n ≤ 4 := ⟨(1 + d).toNat, by omega, by omega⟩
        have en' : (fun i j => V.int (i + j)) 1 d = V.int (n : Int) := congrArg V.int en
        rw [en']
        -- rules
        refine ⟨_, rfl, (n : Int), rfl, by omega, by omega, fun D hD => lc_range (lo := 0) (n := (n : Int).toNat) (fun i H' => ∃ rs : List Str, Kp s H3 H' ∧ Src H' s (30 * j + 1 + i) ∧ H' D = some (.lst (rs.map V.str)) ∧ rs.length = i ∧ ∀ r ∈ rs, rule3 r) ?_ ?_ ?_⟩
        · exact ⟨[], Kp.new (Kp.refl s H3) hD, src3.upd (src3.ne hD), upd_same, rfl, fun _ h => nomatch h⟩
        · rintro i H' hi ⟨rs, K1, S1', h1, l1, r1⟩
          have nD := src3.ne hD
          refine ⟨rfl, ?_⟩
          refine ⟨_, rfl, by show 4 ≤ sizeLine; decide, fun l hl => ?_⟩
          have nl := S1'.ne hl
          have nDl : D ≠ l := ne_of_none h1 hl
          refine ⟨s, l, _, _, rfl, S1'.upd nl, by omega, upd_same, nl, by show 0 < 4; decide, by show 4 ≤ 1000; decide, fun H'' v hv K2 S2' => ?_⟩
          have hx : ∃ b, v = V.str b ∧ rule3 b := by
            have hx' : ∀ v ∈ [V.str "itself", V.str "itself", V.str "marks", V.str "never"], ∃ b, v = V.str b ∧ rule3 b := by
              simp [rule3]
            exact hx' v hv
          obtain ⟨b, rfl, hb3⟩ := hx
          have h2 := K2 _ _ nD ((upd_ne nDl).trans h1)
          refine ⟨_, h2, by simp; exact small1000 (by omega), rs ++ [b], Kp.new (Kp.trans K1 (Kp.trans (Kp.new (Kp.refl s H') hl) K2)) hD, (S2'.upd nD), ?_, ?_, ?_⟩
          · rw [upd_same, List.map_append]; rfl
          · simp; omega
          · intro r hr'
            rcases List.mem_append.mp hr' with q | q
            · exact r1 r q
            · rw [List.mem_singleton.mp q]; exact hb3
        rintro H4a ⟨rules, K4a, src4a, hDl, lr, r3⟩
        have enn : (n : Int).toNat = n := by omega
        rw [enn] at src4a lr
        refine ⟨D, _, rfl, .inl ⟨SqL.of hDl, fun p0 f0 => ?_⟩⟩
        have n0 := src4a.ne f0
        have K4 : Kp s H3 (upd H4a p0 (.tup (rules.map V.str))) := Kp.new K4a (K4a.free n0 f0)
        have src4 := src4a.upd (o := .tup (rules.map V.str)) n0
        have m0 : (upd H4a p0 (.tup (rules.map V.str))) p0 = some (.tup (rules.map V.str)) := upd_same
        revert K4 src4 m0
        generalize upd H4a p0 (.tup (rules.map V.str)) = H4
        intro K4 src4 m0
        -- made, others
        refine ⟨_, rfl, _, rfl, s, n, _, rfl, src4, by omega, by omega, fun H5 p1 made K5 src5 f1 m1 => ?_⟩
        refine ⟨_, rfl, _, rfl, s, n, _, rfl, src5, by omega, by omega, fun H6 p2 others0 K6 src6 f2 m2 => ?_⟩
        have n1 := src4.ne f1
        have n2 := src5.ne f2
        refine ⟨_, _, rfl, ?_⟩
        have M0 := K6 _ _ n0 (K5 _ _ n0 m0)
        have M1 := K6 _ _ n1 m1
        have K26 : Kp s H2 H6 := Kp.trans K3 (Kp.trans K4 (Kp.trans K5 K6))
        refine q_cut (M := fun σ' H' => ∃ (po : Addr) (others : List Int), σ' = [some (.ref a), some (.int (place : Int)), some (.ref s), some (.int (j : Int)), some (.int (n : Int)), some (.ref p0), some (.ref p1), some (.ref po), v8, v9, v10, v11, v12, v13, v14, v15, v16, v17] ∧ po ≠ s ∧ H' po = some (.tup (others.map V.int)) ∧ Kp s H6 H' ∧ Src H' s (30 * j + 1 + n + n + n + 1)) ?_ ?_
        · refine ⟨_, rfl, s, 2, _, rfl, src6, by omega, by decide, by decide, fun H7 d2 K7 src7 _ _ => ?_⟩
          refine ⟨rfl, _, rfl, ite2 (fun _ => ?_) (fun _ => ?_)⟩
          · exact ⟨_, rfl, p1, made, rfl, n1, K7 _ _ n1 M1, K7, src7⟩
          · exact ⟨p2, others0, rfl, n2, K7 _ _ n2 m2, K7, src7⟩
        rintro σ' H7 ⟨po, others, rfl, npo, mpo, K7, src7⟩
        -- memos, same, home
        refine ⟨_, rfl, _, rfl, s, n, _, rfl, src7, by omega, by omega, fun H8 p3 memos K8 src8 f3 m3 l3 => ?_⟩
        refine ⟨_, rfl, _, rfl, s, n, _, rfl, src8, by omega, by omega, fun H9 p4 same K9 src9 f4 m4 l4 => ?_⟩
        have n3 := src7.ne f3
        have n4 := src8.ne f4
        refine ⟨_, rfl, s, 3, _, rfl, src9, by omega, by decide, by decide, fun H10 d3 K10 src10 _ _ => ?_⟩
        refine ⟨_, _, rfl, rfl, _, _, _, rfl, ?_⟩
        have eh : (fun (i j : Int) => V.bl (decide (j < i))) d3 0 = V.bl (decide (0 < d3)) := rfl
        rw [eh]
        generalize decide (0 < d3) = home
        have K610 : Kp s H6 H10 := Kp.trans K7 (Kp.trans K8 (Kp.trans K9 K10))
        have S10 : Same H H10 := Same.kp S2 hsH (Kp.trans K26 K610)
        have N0 := K610 _ _ n0 M0
        have N1 := K610 _ _ n1 M1
        have N2 := K10 _ _ npo (K9 _ _ npo (K8 _ _ npo mpo))
        have N3 := K10 _ _ n3 (K9 _ _ n3 m3)
        have N4 := K10 _ _ n4 m4
        -- none
        refine ⟨_, rfl, (n : Int), rfl, by omega, by omega, fun D2 hD2 => lc_range (lo := 0) (n := (n : Int).toNat) (fun i H' => Same H10 H' ∧ H' D2 = some (.lst ((List.replicate i false).map V.bl))) ?_ ?_ ?_⟩
        · exact ⟨Same.new (Same.refl _) hD2, upd_same⟩
        · rintro i H' hi ⟨X1, h1⟩
          refine ⟨rfl, ?_⟩
          refine ⟨_, h1, by simp; exact small1000 (by omega), Same.new X1 hD2, ?_⟩
          rw [upd_same, List.replicate_succ', List.map_append]
          rfl
        rintro H11a ⟨X11a, hD2l⟩
        rw [enn] at hD2l
        refine ⟨D2, _, rfl, .inl ⟨SqL.of hD2l, fun p5 f5 => ?_⟩⟩
        have X11 : Same H10 (upd H11a p5 (.tup ((List.replicate n false).map V.bl))) := Same.new' X11a f5
        have m5 : (upd H11a p5 (.tup ((List.replicate n false).map V.bl))) p5 = some (.tup ((List.replicate n false).map V.bl)) := upd_same
        revert X11 m5
        generalize upd H11a p5 (.tup ((List.replicate n false).map V.bl)) = H11
        intro X11 m5
        have O0 := X11 _ _ N0
        have O1 := X11 _ _ N1
        have O2 := X11 _ _ N2
        have O3 := X11 _ _ N3
        have O4 := X11 _ _ N4
        have src11 := src10.mono X11
        have S11 : Same H H11 := S10.trans X11
        have lr' : memos.length = rules.length := by omega
        have ls' : same.length = rules.length := by omega
        have l1000 : rules.length ≤ 1000 := by omega
        -- told
        refine ⟨_, rfl, _, rfl, _, rfl, _, rfl, p0, p1, po, p3, .non, rules, made, others, memos, [], true, rfl, O0, O1, O2, O3, .inl ⟨rfl, rfl⟩, lr', l1000, fun H12 t1 X12 g1 w1 => ?_⟩
        refine ⟨_, rfl, _, rfl, _, rfl, _, rfl, _, rfl, rfl, rfl, p0, p1, po, p3, .non, rules, made, others, memos, [], home, rfl, X12 _ _ O0, X12 _ _ O1, X12 _ _ O2, X12 _ _ O3, .inl ⟨rfl, rfl⟩, lr', l1000, fun H13 t2 X13 g2 w2 => ?_⟩
        refine ⟨by show 2 ≤ sizeLine; decide, fun L1 hL1 => ?_⟩
        have X14 : Same H11 (upd H13 L1 (.lst [.ref t1, .ref t2])) := Same.new' (X12.trans X13) hL1
        have w1' := (Ex.new (o := .lst [.ref t1, .ref t2]) hL1) _ _ (X13 _ _ w1)
        have w2' := (Ex.new (o := .lst [.ref t1, .ref t2]) hL1) _ _ w2
        have hLL : (upd H13 L1 (.lst [.ref t1, .ref t2])) L1 = some (.lst [.ref t1, .ref t2]) := upd_same
        revert X14 w1' w2' hLL
        generalize upd H13 L1 (.lst [.ref t1, .ref t2]) = H14
        intro X14 w1' w2' hLL
        refine ⟨_, rfl, _, rfl, _, rfl, _, rfl, _, rfl, _, rfl, rfl, rfl, p0, p1, po, p3, .ref p4, rules, made, others, memos, same, true, rfl, X14 _ _ O0, X14 _ _ O1, X14 _ _ O2, X14 _ _ O3, .inr ⟨p4, rfl, X14 _ _ O4, ls'⟩, lr', l1000, fun H15 t3 X15 g3 w3 => ?_⟩
        refine ⟨by show 1 ≤ sizeLine; decide, fun L2' hL2' => ?_⟩
        refine ⟨L1, L2', _, _, rfl, rfl, (Ex.new hL2') _ _ (X15 _ _ hLL), upd_same, by show 3 ≤ sizeLine; decide, fun L3 hL3 => ?_⟩
        have X16 : Same H14 (upd (upd H15 L2' (.lst [.ref t3])) L3 (.lst ([.ref t1, .ref t2] ++ [.ref t3]))) := Same.new' (Same.new' X15 hL2') hL3
        have w3' := (Ex.new (o := .lst ([.ref t1, .ref t2] ++ [.ref t3])) hL3) _ _ ((Ex.new (o := .lst [.ref t3]) hL2') _ _ w3)
        have hL3l : (upd (upd H15 L2' (.lst [.ref t3])) L3 (.lst ([.ref t1, .ref t2] ++ [.ref t3]))) L3 = some (.lst [.ref t1, .ref t2, .ref t3]) := upd_same
        revert X16 w3' hL3l
        generalize upd (upd H15 L2' (.lst [.ref t3])) L3 (.lst ([.ref t1, .ref t2] ++ [.ref t3])) = H16
        intro X16 w3' hL3l
        have w1'' := X16 _ _ w1'
        have w2'' := X16 _ _ w2'
        have Y16 : Same H11 H16 := X14.trans X16
        -- due
        refine ⟨_, rfl, _, rfl, _, rfl, _, rfl, _, rfl, p0, p1, po, p3, p5, rules, made, others, memos, _, true, rfl, Y16 _ _ O0, Y16 _ _ O1, Y16 _ _ O2, Y16 _ _ O3, Y16 _ _ m5, by simp; omega, lr', l1000, r3, fun H17 u1 X17 g4 z1 => ?_⟩
        have Y17 := Y16.trans X17
        refine ⟨_, rfl, _, rfl, _, rfl, _, rfl, _, rfl, _, rfl, p0, p1, po, p3, p5, rules, made, others, memos, _, home, rfl, Y17 _ _ O0, Y17 _ _ O1, Y17 _ _ O2, Y17 _ _ O3, Y17 _ _ m5, by simp; omega, lr', l1000, r3, fun H18 u2 X18 g5 z2 => ?_⟩
        refine ⟨by show 2 ≤ sizeLine; decide, fun J1 hJ1 => ?_⟩
        have X19 : Same H16 (upd H18 J1 (.lst [.ref u1, .ref u2])) := Same.new' (X17.trans X18) hJ1
        have z1' := (Ex.new (o := .lst [.ref u1, .ref u2]) hJ1) _ _ (X18 _ _ z1)
        have z2' := (Ex.new (o := .lst [.ref u1, .ref u2]) hJ1) _ _ z2
        have hJJ : (upd H18 J1 (.lst [.ref u1, .ref u2])) J1 = some (.lst [.ref u1, .ref u2]) := upd_same
        revert X19 z1' z2' hJJ
        generalize upd H18 J1 (.lst [.ref u1, .ref u2]) = H19
        intro X19 z1' z2' hJJ
        have Y19 := Y16.trans X19
        refine ⟨_, rfl, _, rfl, _, rfl, _, rfl, _, rfl, _, rfl, p0, p1, po, p3, p4, rules, made, others, memos, same, true, rfl, Y19 _ _ O0, Y19 _ _ O1, Y19 _ _ O2, Y19 _ _ O3, Y19 _ _ O4, ls', lr', l1000, r3, fun H20 u3 X20 g6 z3 => ?_⟩
        refine ⟨by show 1 ≤ sizeLine; decide, fun J2 hJ2 => ?_⟩
        refine ⟨J1, J2, _, _, rfl, rfl, (Ex.new hJ2) _ _ (X20 _ _ hJJ), upd_same, by show 3 ≤ sizeLine; decide, fun J3 hJ3 => ?_⟩
        have X21 : Same H19 (upd (upd H20 J2 (.lst [.ref u3])) J3 (.lst ([.ref u1, .ref u2] ++ [.ref u3]))) := Same.new' (Same.new' X20 hJ2) hJ3
        have z3' := (Ex.new (o := .lst ([.ref u1, .ref u2] ++ [.ref u3])) hJ3) _ _ ((Ex.new (o := .lst [.ref u3]) hJ2) _ _ z3)
        have hJ3l : (upd (upd H20 J2 (.lst [.ref u3])) J3 (.lst ([.ref u1, .ref u2] ++ [.ref u3]))) J3 = some (.lst [.ref u1, .ref u2, .ref u3]) := upd_same
        revert X21 z3' hJ3l
        generalize upd (upd H20 J2 (.lst [.ref u3])) J3 (.lst ([.ref u1, .ref u2] ++ [.ref u3])) = H21
        intro X21 z3' hJ3l
        have T3 := X21 _ _ (X19 _ _ hL3l)
        have A1 := X21 _ _ (X19 _ _ w1'')
        have A2 := X21 _ _ (X19 _ _ w2'')
        have A3 := X21 _ _ (X19 _ _ w3')
        have B1 := X21 _ _ z1'
        have B2 := X21 _ _ z2'
        have Y21 : Same H11 H21 := Y19.trans X21
        rw [mL_congr (getD_no n)] at B1 B2
        refine ⟨_, rfl, _, rfl, J3, L3, [.ref u1, .ref u2, .ref u3], [.ref t1, .ref t2, .ref t3], rfl, SqL.of hJ3l, SqL.of T3, RZ.for_zipL (xs := [.ref u1, .ref u2, .ref u3]) (ys := [.ref t1, .ref t2, .ref t3]) rfl (fun i σ H' => ∃ v14 v15 v16 v17, σ = [some (.ref a), some (.int (place : Int)), some (.ref s), some (.int (j : Int)), some (.int (n : Int)), some (.ref p0), some (.ref p1), some (.ref po), some (.ref p3), some (.ref p4), some (.bl home), some (.ref p5), some (.ref L3), some (.ref J3), v14, v15, v16, v17] ∧ Same H21 H') ⟨_, _, _, _, rfl, Same.refl _⟩ (fun i σ H' ⟨_, _, _, _, _, X⟩ => ⟨SqL.of (X _ _ hJ3l), SqL.of (X _ _ T3)⟩) ?_ ?_⟩
        · rintro i x y T' σ H' hx hy ⟨v14, v15, v16, v17, rfl, X⟩ hT'
          obtain ⟨q, t, l, rfl, rfl, hq, ht, ll⟩ : ∃ (q t : Addr) (l : List Bool), x = .ref q ∧ y = .ref t ∧ H21 q = some (.tup (l.map V.bl)) ∧ H21 t = some (.tup (l.map V.bl)) ∧ l.length = n := by
            match i, hx, hy with
            | 0, hx, hy => cases hx; cases hy; exact ⟨_, _, _, rfl, rfl, B1, A1, by rw [mL_len]; exact lr⟩
            | 1, hx, hy => cases hx; cases hy; exact ⟨_, _, _, rfl, rfl, B2, A2, by rw [mL_len]; exact lr⟩
            | 2, hx, hy => cases hx; cases hy; exact ⟨_, _, _, rfl, rfl, z3', A3, by rw [mL_len]; exact lr⟩
          refine ⟨T', _, rfl, SqT.of upd_same, rfl, _, _, rfl, _, _, rfl, rfl, ?_⟩
          have X2 : Same H21 (upd H' T' (.tup [.ref q, .ref t])) := Same.new' X hT'
          have hq' := X2 _ _ hq
          have ht' := X2 _ _ ht
          revert X2 hq' ht'
          generalize upd H' T' (.tup [.ref q, .ref t]) = H22
          intro X2 hq' ht'
          refine q_when (et_or (et_not (et_B (ev_cb (ea_cons (ev_var rfl) (ea_cons ev_c ea_nil)) (rc_isi (.ty _) (ty_tup ht') (kit_ty (r := true) (by decide +kernel)))))) fun _ =>
            et_test (ev_op (ev_cb (ea_cons (ev_var rfl) ea_nil) (rc_lenT (st_of ht'))) (ev_var rfl) (rv_ne rfl))) (fun c H1 X1 => ?_) (fun c H23 X23 => ?_)
          · simp [ll] at c
          · have hg : given (l.map V.bl).length (fun _ => false) (fun _ => V.non) = [] := by
              unfold given
              rw [List.filter_eq_nil_iff.mpr (fun _ _ => Bool.false_ne_true)]
              rfl
            refine s_when (et_or (et_test (ev_opLL (xs := given (l.map V.bl).length (fun _ => false) (fun _ => V.non)) (ys := []) (z := .bl false) (el_lcT (fun _ => false) (fun _ => V.non) (ev_var rfl) (st_of (X23 _ _ ht')) (by simp; omega) (fun _ => rfl) (fun i x H2 X2 hx => ?_) (fun _ _ _ _ _ q => nomatch q)) (el_lst ea_nil (by decide)) (fun p q H2 hp hq X2 => rv_neD (dp_nil (hp.trans (congrArg (fun z => some (HO.lst z)) hg))) (dp_nil hq) rfl rfl))) fun _ => et_test (ev_op (ev_var rfl) (ev_var rfl) (rv_neD (dp_tupB (X23 _ _ hq')) (dp_tupB (X23 _ _ ht')) (shp_bls _).ok (shp_bls _).ok))) (fun c H1 X1 => ?_) (fun c H24 X24 => ?_)
            · rw [List.getElem?_map] at hx
              cases q : l[i]? with
              | none => rw [q] at hx; cases hx
              | some b =>
                rw [q] at hx
                cases hx
                exact et_not (et_B (ev_cb (ea_cons (ev_var rfl) (ea_cons ev_c ea_nil)) (rc_isi (.ty _) ty_bl (kit_ty (r := true) (by decide +kernel)))))
            · rw [(shp_bls _).same] at c
              cases c
            · exact ⟨_, _, _, _, rfl, X2.trans (X23.trans X24)⟩
        · rintro σ H22 ⟨v14, v15, v16, v17, rfl, X22⟩
          refine ⟨_, _, _, _, _, _, _, _, _, _, _, _, _, _, _, rfl, S11.trans (Y21.trans X22), ?_⟩
          exact (src11.mono (Y21.trans X22)).le (by omega)
      · rintro σ H2 ⟨v3, v4, v5, v6, v7, v8, v9, v10, v11, v12, v13, v14, v15, v16, v17, rfl, S2, src2⟩
        exact ⟨_, _, _, _, _, _, _, _, _, _, _, _, _, _, _, _, _, rfl, S2⟩
    · rintro σ H' ⟨v1, v2, v3, v4, v5, v6, v7, v8, v9, v10, v11, v12, v13, v14, v15, v16, v17, rfl, S⟩
      exact k _
end
end K49

namespace K49
open PySem L2
theorem all_mk {l : PySem.W.OpenLaw} {w : World} {K : PySem.W.Frag} {h : Heap} {mg : Str → Option Value} {fa f0 f1 f2 f3 f4 f5 f6 f7 f8 D0 : Addr} (X : K.In h) (G : h.Ns mainGlobals mg) (hfa : mg "law" = some (.ref fa))
    {od0 an0 od1 an1 od2 an2 od3 an3 od4 an4 od5 an5 od6 an6 od7 an7 od8 an8 : Option Addr} {sl0 sl1 sl2 sl3 sl4 sl5 sl6 sl7 sl8 : Array (Option Value)} {oc0 dc0 pm0 cd0 ct0 oc1 kV1 dc1 pm1 cd1 ct1 oc2 kV2 dc2 pm2 cd2 ct2 oc3 kV3 dc3 pm3 cd3 ct3 oc4 kV4 dc4 pm4 cd4 ct4 oc5 kV5 dc5 pm5 cd5 ct5 oc6 kV6 dc6 pm6 cd6 ct6 oc7 kV7 dc7 pm7 cd7 ct7 oc8 kV8 dc8 pm8 cd8 ct8 : Value}
    (a0 : PySem.W.nsIn K mainGlobals "meeting" = some (some (.ref f0))) (l0 : K.lookup f0 = some ⟨oc0, od0, .func (PySem.W.fnOf "meeting" "meeting" (defArgs s_meeting) (defBody s_meeting) (defScope s_meeting) .none (.ref D0) dc0 pm0 an0 cd0 ct0), sl0⟩) (c0 : PySem.W.codeIn K cd0 "meeting" = true) (k0 : PySem.W.keepIn K (.ref f0) = true)
    (w0_0 : PySem.W.nsIn K D0 "same" = some (some (.none)))
    (w0_1 : PySem.W.nsIn K D0 "home" = some (some (.bool true)))
    (a1 : PySem.W.nsIn K mainGlobals "_law_source" = some (some (.ref f1))) (l1 : K.lookup f1 = some ⟨oc1, od1, .func (PySem.W.fnOf "_law_source" "_law_source" (defArgs s_source) (defBody s_source) (defScope s_source) .none kV1 dc1 pm1 an1 cd1 ct1), sl1⟩) (c1 : PySem.W.codeIn K cd1 "_law_source" = true) (k1 : PySem.W.keepIn K (.ref f1) = true)
    (a2 : PySem.W.nsIn K mainGlobals "_law_draw" = some (some (.ref f2))) (l2 : K.lookup f2 = some ⟨oc2, od2, .func (PySem.W.fnOf "_law_draw" "_law_draw" (defArgs s_draw) (defBody s_draw) (defScope s_draw) .none kV2 dc2 pm2 an2 cd2 ct2), sl2⟩) (c2 : PySem.W.codeIn K cd2 "_law_draw" = true) (k2 : PySem.W.keepIn K (.ref f2) = true)
    (a3 : PySem.W.nsIn K mainGlobals "_law_of" = some (some (.ref f3))) (l3 : K.lookup f3 = some ⟨oc3, od3, .func (PySem.W.fnOf "_law_of" "_law_of" (defArgs s_of) (defBody s_of) (defScope s_of) .none kV3 dc3 pm3 an3 cd3 ct3), sl3⟩) (c3 : PySem.W.codeIn K cd3 "_law_of" = true) (k3 : PySem.W.keepIn K (.ref f3) = true)
    (a4 : PySem.W.nsIn K mainGlobals "_law_made" = some (some (.ref f4))) (l4 : K.lookup f4 = some ⟨oc4, od4, .func (PySem.W.fnOf "_law_made" "_law_made" (defArgs s_made) (defBody s_made) (defScope s_made) .none kV4 dc4 pm4 an4 cd4 ct4), sl4⟩) (c4 : PySem.W.codeIn K cd4 "_law_made" = true) (k4 : PySem.W.keepIn K (.ref f4) = true)
    (a5 : PySem.W.nsIn K mainGlobals "_law_flags" = some (some (.ref f5))) (l5 : K.lookup f5 = some ⟨oc5, od5, .func (PySem.W.fnOf "_law_flags" "_law_flags" (defArgs s_flags) (defBody s_flags) (defScope s_flags) .none kV5 dc5 pm5 an5 cd5 ct5), sl5⟩) (c5 : PySem.W.codeIn K cd5 "_law_flags" = true) (k5 : PySem.W.keepIn K (.ref f5) = true)
    (a6 : PySem.W.nsIn K mainGlobals "_law_level" = some (some (.ref f6))) (l6 : K.lookup f6 = some ⟨oc6, od6, .func (PySem.W.fnOf "_law_level" "_law_level" (defArgs s_level) (defBody s_level) (defScope s_level) .none kV6 dc6 pm6 an6 cd6 ct6), sl6⟩) (c6 : PySem.W.codeIn K cd6 "_law_level" = true) (k6 : PySem.W.keepIn K (.ref f6) = true)
    (a7 : PySem.W.nsIn K mainGlobals "_law_due" = some (some (.ref f7))) (l7 : K.lookup f7 = some ⟨oc7, od7, .func (PySem.W.fnOf "_law_due" "_law_due" (defArgs s_due) (defBody s_due) (defScope s_due) .none kV7 dc7 pm7 an7 cd7 ct7), sl7⟩) (c7 : PySem.W.codeIn K cd7 "_law_due" = true) (k7 : PySem.W.keepIn K (.ref f7) = true)
    (a8 : PySem.W.nsIn K mainGlobals "law" = some (some (.ref f8))) (l8 : K.lookup f8 = some ⟨oc8, od8, .func (PySem.W.fnOf "law" "law" (defArgs s_law) (defBody s_law) (defScope s_law) .none kV8 dc8 pm8 an8 cd8 ct8), sl8⟩) (c8 : PySem.W.codeIn K cd8 "law" = true) (k8 : PySem.W.keepIn K (.ref f8) = true)
    (z0 : PySem.W.nsIn K mainGlobals "enumerate" = some none)
    (z1 : PySem.W.nsIn K mainGlobals "tuple" = some none)
    (z2 : PySem.W.nsIn K mainGlobals "abs" = some none)
    (z3 : PySem.W.nsIn K mainGlobals "range" = some none)
    (z4 : PySem.W.nsIn K mainGlobals "int" = some none)
    (z5 : PySem.W.nsIn K mainGlobals "max" = some none)
    (z6 : PySem.W.nsIn K mainGlobals "len" = some none)
    (z7 : PySem.W.nsIn K mainGlobals "min" = some none)
    (z8 : PySem.W.nsIn K mainGlobals "zip" = some none)
    (z9 : PySem.W.nsIn K mainGlobals "isinstance" = some none)
    (z10 : PySem.W.nsIn K mainGlobals "bool" = some none)
    : ∃ fd : FuncData, (∀ (s : Shared) (v : Value), BindsTo s fd ⟨[v], []⟩ [("_law_script", v)]) ∧ ∀ base : Heap, K.In base → base.Ns mainGlobals mg → FnOk l.prog w K mg base CX0 3 fa fd ["_law_script"] (spLaw K) := by
  have e := hfa.symm.trans (PySem.W.mg_of X G a8)
  cases e
  have FD0 : FunD K "meeting" "meeting" (defArgs s_meeting) (defBody s_meeting) (defScope s_meeting) [] [("same", .non), ("home", .bl true)] f0 (PySem.W.fnOf "meeting" "meeting" (defArgs s_meeting) (defBody s_meeting) (defScope s_meeting) .none (.ref D0) dc0 pm0 an0 cd0 ct0) := ⟨⟨_, _, _, _, _, _, _, _, _, _, rfl, l0, c0, .inl ⟨rfl, rfl⟩, .inr ⟨D0, rfl, fun q hq => by
      rcases List.mem_cons.mp hq with rfl | hq
      · exact ⟨_, w0_0, rfl⟩
      rcases List.mem_cons.mp hq with rfl | hq
      · exact ⟨_, w0_1, rfl⟩
      exact absurd hq List.not_mem_nil⟩⟩, k0⟩
  let T : Txt K mg := {
    f_meeting := f0, d_meeting := _, F_meeting := FD0, g_meeting := PySem.W.mg_of X G a0,
    f_source := f1, d_source := _, F_source := fun_mk (st := s_source) l1 c1 k1, B_source := (fun_mk (st := s_source) l1 c1 k1).binds (ps := P_source) (fun _ _ _ _ _ _ us hl => match us, hl with | [_, _], _ => rfl), g_source := PySem.W.mg_of X G a1,
    f_draw := f2, d_draw := _, F_draw := fun_mk (st := s_draw) l2 c2 k2, B_draw := (fun_mk (st := s_draw) l2 c2 k2).binds (ps := P_draw) (fun _ _ _ _ _ _ us hl => match us, hl with | [_, _], _ => rfl), g_draw := PySem.W.mg_of X G a2,
    f_of := f3, d_of := _, F_of := fun_mk (st := s_of) l3 c3 k3, B_of := (fun_mk (st := s_of) l3 c3 k3).binds (ps := P_of) (fun _ _ _ _ _ _ us hl => match us, hl with | [_, _], _ => rfl), g_of := PySem.W.mg_of X G a3,
    f_made := f4, d_made := _, F_made := fun_mk (st := s_made) l4 c4 k4, B_made := (fun_mk (st := s_made) l4 c4 k4).binds (ps := P_made) (fun _ _ _ _ _ _ us hl => match us, hl with | [_, _], _ => rfl), g_made := PySem.W.mg_of X G a4,
    f_flags := f5, d_flags := _, F_flags := fun_mk (st := s_flags) l5 c5 k5, B_flags := (fun_mk (st := s_flags) l5 c5 k5).binds (ps := P_flags) (fun _ _ _ _ _ _ us hl => match us, hl with | [_, _], _ => rfl), g_flags := PySem.W.mg_of X G a5,
    f_level := f6, d_level := _, F_level := fun_mk (st := s_level) l6 c6 k6, B_level := (fun_mk (st := s_level) l6 c6 k6).binds (ps := P_level) (fun _ _ _ _ _ _ us hl => match us, hl with | [_, _, _, _, _], _ => rfl), g_level := PySem.W.mg_of X G a6,
    f_due := f7, d_due := _, F_due := fun_mk (st := s_due) l7 c7 k7, B_due := (fun_mk (st := s_due) l7 c7 k7).binds (ps := P_due) (fun _ _ _ _ _ _ us hl => match us, hl with | [_, _, _, _, _, _], _ => rfl), g_due := PySem.W.mg_of X G a7,
    f_law := fa, d_law := _, F_law := fun_mk (st := s_law) l8 c8 k8, B_law := (fun_mk (st := s_law) l8 c8 k8).binds (ps := P_law) (fun _ _ _ _ _ _ us hl => match us, hl with | [_], _ => rfl), g_law := PySem.W.mg_of X G a8,
    b_enumerate := PySem.W.mg_none_of X G z0,
    b_tuple := PySem.W.mg_none_of X G z1,
    b_abs := PySem.W.mg_none_of X G z2,
    b_range := PySem.W.mg_none_of X G z3,
    b_int := PySem.W.mg_none_of X G z4,
    b_max := PySem.W.mg_none_of X G z5,
    b_len := PySem.W.mg_none_of X G z6,
    b_min := PySem.W.mg_none_of X G z7,
    b_zip := PySem.W.mg_none_of X G z8,
    b_isinstance := PySem.W.mg_none_of X G z9,
    b_bool := PySem.W.mg_none_of X G z10 }
  exact ⟨PySem.W.fnOf "law" "law" (defArgs s_law) (defBody s_law) (defScope s_law) .none kV8 dc8 pm8 an8 cd8 ct8, fun s v => .of_eq rfl, fun base _ _ => ok_law T⟩
theorem walk {l : PySem.W.OpenLaw} {q : Program} {loose : List Str} {XP : (Str → Option Value) → Heap → Prop} {YP : World → Heap → Prop} {d : DefRec} {K : Params → PySem.W.Frag} (hn : l.most = some 63) (hdf : d.params.defaults = [])
    (hY : ∀ (w : World) (h : Heap), YP w h → (K w.params).In h)
    (F : ∀ (w : World) (mg : Str → Option Value) (fa : Addr) (h : Heap), (K w.params).In h → h.Ns mainGlobals mg → mg d.name = some (.ref fa) →
      ∃ fd : FuncData, (∀ (s : Shared) (u : Value), BindsTo s fd ⟨[u], []⟩ [("_law_script", u)]) ∧ ∀ base : Heap, (K w.params).In base → base.Ns mainGlobals mg → FnOk l.prog w (K w.params) mg base CX0 3 fa fd ["_law_script"] (spLaw (K w.params))) :
    PySem.W.WalkO q loose XP YP l.row.toRowW d [] (fun f vs => PySem.call f vs) :=
  L2.walk_of (n := 63) (k := 3) (x := "_law_script") (CX := fun _ => CX0) (sp := fun w => spLaw (K w.params)) hn (by decide) hdf ⟨rfl, by decide, by decide⟩ hY F (fun _ _ a ns hl _ hS => ⟨a, ns, rfl, hS, hl, fun _ => rfl⟩) fun _ _ _ _ _ z => z
end K49

open PySem PySem.W PyProof.Rows in
set_option maxRecDepth 100000 in
set_option maxHeartbeats 0 in
theorem PySem.Challenge.cw_waypairs_k49_meetings_holds : PySem.Challenge.rw_waypairs_k49_meetings.Holds := by
  w_on; o_law; k_head; (case hw => w_witness2)
  k_fill
  refine K49.walk (l := PySem.Challenge.rw_waypairs_k49_meetings) rfl rfl (fun w h Y => PySem.W.kIn_of Y) ?F
  case F =>
    intro w mg fa h KX G hmg
    refine' K49.all_mk KX G hmg ?a0 ?l0 ?c0 ?k0 ?w0_0 ?w0_1 ?a1 ?l1 ?c1 ?k1 ?a2 ?l2 ?c2 ?k2 ?a3 ?l3 ?c3 ?k3 ?a4 ?l4 ?c4 ?k4 ?a5 ?l5 ?c5 ?k5 ?a6 ?l6 ?c6 ?k6 ?a7 ?l7 ?c7 ?k7 ?a8 ?l8 ?c8 ?k8 ?z0 ?z1 ?z2 ?z3 ?z4 ?z5 ?z6 ?z7 ?z8 ?z9 ?z10
    (case a0 => k_is)
    (case l0 => k_is)
    (case c0 => k_is)
    (case k0 => k_is)
    (case w0_0 => k_is)
    (case w0_1 => k_is)
    (case a1 => k_is)
    (case l1 => k_is)
    (case c1 => k_is)
    (case k1 => k_is)
    (case a2 => k_is)
    (case l2 => k_is)
    (case c2 => k_is)
    (case k2 => k_is)
    (case a3 => k_is)
    (case l3 => k_is)
    (case c3 => k_is)
    (case k3 => k_is)
    (case a4 => k_is)
    (case l4 => k_is)
    (case c4 => k_is)
    (case k4 => k_is)
    (case a5 => k_is)
    (case l5 => k_is)
    (case c5 => k_is)
    (case k5 => k_is)
    (case a6 => k_is)
    (case l6 => k_is)
    (case c6 => k_is)
    (case k6 => k_is)
    (case a7 => k_is)
    (case l7 => k_is)
    (case c7 => k_is)
    (case k7 => k_is)
    (case a8 => k_is)
    (case l8 => k_is)
    (case c8 => k_is)
    (case k8 => k_is)
    (case z0 => k_is)
    (case z1 => k_is)
    (case z2 => k_is)
    (case z3 => k_is)
    (case z4 => k_is)
    (case z5 => k_is)
    (case z6 => k_is)
    (case z7 => k_is)
    (case z8 => k_is)
    (case z9 => k_is)
    (case z10 => k_is)
#print axioms PySem.Challenge.cw_waypairs_k49_meetings_holds
