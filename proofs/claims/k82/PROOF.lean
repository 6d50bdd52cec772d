import PyProof.Rows.All
import Wide.All
import OpenK.AllK
import Wide.FinOn
import HandS.ForMost
import HandS.Zip
import HandS.Walk
import HandS.IsInst
import HandS.Evl
import HandS.Defaults
import HandS.Style
import KE.GoesEnum
import HandS.OwnEq
import HandS.More
import HandS.OwnIter
import HandS.IterNext
import HandS.Words
import HandS.ClsMeth
import HandS.Star
import HandS.TupAny
import HandS.Wide
import HandS.Small
import HandS.Property
import PySem.Challenge.RW_waypairs_k82_profiles_of_sets
set_option Elab.async false
set_option linter.all false
set_option maxRecDepth 100000
set_option maxHeartbeats 4000000
/-! enumerate over a tuple -/
namespace Way
open PySem PySem.Spec PyProof.Rows L2
set_option maxHeartbeats 1000000 in
theorem meets_enumerate_newT {v : Value} {o : Obj} {H : Heap → Prop} (B : Begins v o H) :
    Meets (Builtin.«enumerate.__new__» ⟨[.type "enumerate", v], []⟩) (fun _ R s => H s.heap ∧
      R (.ok (.ret (.ref (s.heap.push o).objs.size))) { s with heap := (s.heap.push o).push { cls := .type "enumerate", data := .fields #[.none, .bool false, .ref s.heap.objs.size, rawInt 0, .none, .none] } }) :=
  .of_wp fun prog w A R s h => by
    obtain ⟨hp, g, d, tk, os⟩ := s; obtain ⟨h1, h⟩ := h
    have hsub := sub_enumerate
    have q1 : ∀ {A' : Around} {E : Value → Shared → Prop} {Q : Value → Shared → Prop}, Q (.ref hp.objs.size) ⟨hp.push o, g, d, tk, os⟩ → wpAny (model prog w) A' (pyIter v) Q E ⟨hp, g, d, tk, os⟩ :=
      fun q => B.iter prog w _ _ ⟨hp, g, d, tk, os⟩ _ h1 q
    wp_walk using q1
    refine wpAny_stack_any fun st => wpAny_pure ?_
    split
    · rename_i c _ _ _ _ _
      cases (c == Value.type "enumerate")
      · wp_walk using q1
        exact ⟨_, rfl, h⟩
      · wp_walk using q1
        exact ⟨_, rfl, h⟩
    · wp_walk using q1
      exact ⟨_, rfl, h⟩
theorem enum_beginsT {prog : Program} {w : World} {A : Around} {E : Value → Shared → Prop} {s : Shared} {v : Value} {o : Obj} {H : Heap → Prop} {Q : Value → Shared → Prop} (B : Begins v o H) (h1 : H s.heap)
    (h : ∀ h', IsEnum h' (s.heap.objs.size + 1) s.heap.objs.size 0 .none → h'.get? s.heap.objs.size = some o → h'.objs.size = s.heap.objs.size + 2 →
      (∀ b o, s.heap.get? b = some o → h'.get? b = some o) → Q (.ref (s.heap.objs.size + 1)) { s with heap := h' }) :
    wpAny (model prog w) A (call (.type "enumerate") [v]) Q E s := by
  refine callType_new F.called_enumerate (by decide) (F.typeCall_enumerate_1 _) (F.newCall_enumerate_1 _) (fun obj => F.args_object_init_2 obj _) F.entry_enumerate_new
    (meets_enumerate_newT B) ⟨h1, ?_⟩
  have hz : (s.heap.push o).objs.size = s.heap.objs.size + 1 := Heap.size_push ..
  show _ ∧ _
  rw [hz]
  have he : IsEnum ((s.heap.push o).push { cls := .type "enumerate", data := .fields #[.none, .bool false, .ref s.heap.objs.size, rawInt 0, .none, .none] }) (s.heap.objs.size + 1) s.heap.objs.size 0 .none := by
    have := Heap.get?_push_size (s.heap.push o) (o := { cls := .type "enumerate", data := .fields #[.none, .bool false, .ref s.heap.objs.size, rawInt 0, .none, .none] }) rfl
    rw [hz] at this; exact this
  refine ⟨⟨_, he, rfl⟩, h _ he (Heap.get?_push_of_some _ (Heap.get?_push_size _ B.free)) (by rw [Heap.size_push, hz]) fun b o x => Heap.get?_push_of_some _ (Heap.get?_push_of_some _ x)⟩

/-- the tuple at a, each item in a new pair with its number -/
def IteT (K : PySem.W.Frag) (a : Addr) : It :=
  ⟨fun i H => ∃ (xs : List V) (x : V), SqT K H a xs ∧ xs[i]? = some x, fun i H v H' => ∃ T x, v = .ref T ∧ H T = none ∧ H' = upd H T (.tup [.int (i : Nat), x]) ∧ ∀ xs, SqT K H a xs → xs[i]? = some x, fun i H => ∃ xs : List V, SqT K H a xs ∧ xs.length ≤ i⟩
theorem apart_tupIter {h : Heap} {a it : Addr} {i : Nat} {its : Array Value} (ht : h.IsTuple a its) (hi : h.IsTupleIter it a i) : a ≠ it := by
  rintro rfl
  obtain ⟨o, ho, hc, _⟩ := ht
  obtain ⟨o', ho', hc', _⟩ := hi
  rw [ho] at ho'
  cases ho'
  rw [hc] at hc'
  exact absurd hc' (by decide)
theorem turn_enumT {P : Program} {w : World} {K : PySem.W.Frag} {elts : List Expr} {kk : Nat} {tpos : Pos} (a e it : Addr) :
    Turn P w K (.Tuple elts kk tpos) (IteT K a) [e, it] e (fun i h => (∃ old, IsEnum h e it ((i : Nat) : Int) old) ∧ h.IsTupleIter it a i ∧ e ≠ it) where
  mem := by simp
  obj := fun i h st b hb => by
    obtain ⟨⟨old, he⟩, ⟨o, ho, hc, hd⟩, _⟩ := st
    have e' : b = e ∨ b = it := by simpa using hb
    rcases e' with z | z
    · rw [z]; exact ⟨_, he, fun v q => nomatch q⟩
    · rw [z]; exact ⟨o, ho, fun v q => by rw [hd] at q; cases q⟩
  keep := fun i h h' st k => let ⟨⟨old, he⟩, hi, hne⟩ := st; ⟨⟨old, k e (by simp) _ he⟩, hi.at fun o q => k it (by simp) o q, hne⟩
  item := by
    intro X hP hw hK hc i pins s σ H E I hf st hg
    subst hP hw hK
    obtain ⟨⟨old, he⟩, hit, hne⟩ := st
    obtain ⟨xs, x, hq, hx⟩ := hg
    obtain ⟨its, rv, p, hz⟩ := I.tuple hq
    have p' : s.heap.IsTuple a its.toArray := p
    obtain ⟨u, hu, ru⟩ := rv.get hx
    have hai := apart_tupIter p' hit
    have hae : a ≠ e := by
      rintro rfl
      obtain ⟨o, ho, hc', _⟩ := p'
      rw [he] at ho
      cases ho
      exact absurd (show Value.type "enumerate" = Value.type "tuple" from hc') (by decide)
    have hel : e < s.heap.objs.size := Heap.lt_size he
    have hil : it < s.heap.objs.size := by obtain ⟨_, q, _⟩ := hit; exact Heap.lt_size q
    have hi : i < its.toArray.size := by
      have q := (List.getElem?_eq_some_iff.mp hu).1
      simpa using q
    refine wpAny_pyNext_enum_itemD (Draws.tuple (A := X.A.in1) (I.ok.hd hc) it a hai its.toArray) he ⟨hit, p'⟩ hi hne (by simp; exact ⟨hne, hae.symm⟩) fun y h' tk hP ho hs' hT hsz hk => ?_
    obtain ⟨hit', _⟩ := hs'
    have ey : y = u := by
      have hP' : its.toArray[i]? = some y := hP
      have hu' : its.toArray[i]? = some u := by simpa using hu
      rw [hu'] at hP'
      exact (Option.some.inj hP').symm
    subst ey
    refine ⟨_, rfl, wpAny_letOwnedTupleGo_enum (s := { s with heap := h', toks := tk + 1 }) ho fun h'' he' sb => ?_⟩
    have hT2 : h''.get? s.heap.objs.size = some { cls := .type "tuple", data := .seq #[.int i tk, y] } := (sb.2 _ (Nat.ne_of_gt hel)).trans hT
    have new : ObjOk X.prog X.w (upd H s.heap.objs.size (.tup [.int (i : Nat), x])) h'' s.heap.objs.size (.tup [.int (i : Nat), x]) :=
      ⟨by show 2 ≤ sizeLine; decide, [.int i tk, y], .cons ⟨_, rfl⟩ (.cons ru .nil), ⟨_, hT2, rfl, _, rfl⟩⟩
    have I1 : Inv X pins σ (upd H s.heap.objs.size (.tup [.int (i : Nat), x])) { s with heap := h'', toks := tk + 1 } :=
      I.turnedNew (ch := [e, it]) (fun b ob hb q => (sb.2 b (fun z => hb (by simp [z]))).trans (hk b ob (fun z => hb (by simp [z])) (fun z => hb (by simp [z])) q)) hf (Nat.le_refl _) new
    refine ⟨.ref s.heap.objs.size, _, I1, rfl, ⟨_, x, rfl, I.hok.fresh (Nat.le_refl _), rfl, fun ys hy => by rw [I.tuple_inj hy hq]; exact hx⟩, ⟨⟨y, ?_⟩, hit'.at fun o q => (sb.2 it (Ne.symm hne)).trans q, hne⟩, fun b hb => ?_⟩
    · have e1 : ((i + 1 : Nat) : Int) = (i : Int) + 1 := by omega
      rw [e1]; exact he'
    · have hb' : b < s.heap.objs.size := by
        have e' : b = e ∨ b = it := by simpa using hb
        rcases e' with z | z
        · rw [z]; exact hel
        · rw [z]; exact hil
      rw [upd_ne (Nat.ne_of_lt hb')]
      exact (hf b hb).1
  done := by
    intro X hP hw hK hc i pins s σ H E I hf st hg
    subst hP hw hK
    obtain ⟨⟨old, he⟩, hit, hne⟩ := st
    obtain ⟨xs, hq, hx⟩ := hg
    obtain ⟨its, rv, p, hz⟩ := I.tuple hq
    have p' : s.heap.IsTuple a its.toArray := p
    obtain ⟨f0, f1, f2, f3, f4, f5⟩ := hf it (by simp)
    have hl := rv.length
    have hT : s.TypeIs (.ref e) "enumerate" := ⟨_, he, rfl⟩
    unfold pyNext
    refine wpAny_bind (wpAny_attempt (wpAny_callSpecial?_slot (name := Str.ofString "__next__") hT F.slot_enumerate_next
      (wpAny_call_entry F.slot_enumerate_next hT F.entry_enumerate_next ?_ (F.args_enumerate_next_1 _))))
    show wpAny _ _ (field (.ref e) 2 >>= _) _ _ _
    refine wpAny_bind (wpAny_field he rfl (x := .ref it) rfl ?_)
    refine wpAny_bind (RZ.nextOf_tuple_end (I.ok.hd hc) hit p' (by simp; omega) fun h' x he' hx' => ?_)
    obtain ⟨o, ho, hc⟩ := hx'
    refine wpAny_bind (wpAny_isInstance (T := "StopIteration") (b := true) ⟨o, ho, hc⟩ isSubtype_stop ?_)
    exact wpAny_pure ⟨rfl, I.turned (t' := s.toks) (fun b o hb q => he' b o hb q) f0 f1 f3 f4 f5⟩
  self := fun A i s Q E st h => let ⟨⟨_, he⟩, _⟩ := st; wpAny_pyIter_enum he h
def iEnumT (K : PySem.W.Frag) (ta : TA) : TI := fun σ H R => ta σ H fun vs H1 => ∃ a xs, vs = [.ref a] ∧ SqT K H1 a xs ∧ R (IteT K a) H1
theorem pi_enumT {X : Cx} {e : Expr} {ta : TA} {p pos tpos : Pos} {elts : List Expr} {kk : Nat} (hg : Gl X "enumerate") (hm : X.mg "enumerate" = none) (ha : PA X [e] ta) (hs : starEach [e] X.env = [(false, eval e X.env)] := by rfl) :
    PI X (.Tuple elts kk tpos) (.Call (.Name "enumerate" p) [e] [] pos) (iEnumT X.K ta) := by
  refine ⟨fun pins s σ H R I h => ?_⟩
  refine Call_ (ld_blt I hg hm boot_enumerate (PyProof.Rows.callWith_type1 (thn (ha.run pos pins s σ H _ I h) fun us s1 ⟨vs, H1, I1, r1, q1⟩ => ?_) hs rfl))
  obtain ⟨a, xs, ex, hq, q⟩ := q1
  subst ex
  cases r1 with
  | cons r rr =>
    cases rr
    cases r
    obtain ⟨its, rv, p', hz⟩ := I1.tuple hq
    have p'' : s1.heap.IsTuple a its.toArray := p'
    refine enum_beginsT (begins_tuple a its.toArray) p'' fun h' he hit hsz hk => wpAny_pyIter_enum he ?_
    have I2 : Inv X pins σ H1 { s1 with heap := h' } := I1.kept (t' := s1.toks) hk
    refine ⟨s1.heap.objs.size + 1, [s1.heap.objs.size + 1, s1.heap.objs.size], _, _, H1, rfl, I2, turn_enumT a (s1.heap.objs.size + 1) s1.heap.objs.size, ⟨⟨.none, he⟩, ⟨_, hit, rfl, rfl⟩, Nat.succ_ne_self _⟩, fun b hb => ?_, q⟩
    have e' : b = s1.heap.objs.size + 1 ∨ b = s1.heap.objs.size := by simpa using hb
    have hle : s1.heap.objs.size ≤ b := by
      rcases e' with z | z
      · rw [z]; exact Nat.le_add_right _ _
      · rw [z]; exact Nat.le_refl _
    exact I1.fpOk hle (I1.hok.fresh hle)
theorem walk_enumT {K : PySem.W.Frag} {a : Addr} {xs : List V} : Walk (IteT K a) xs.length (fun H => SqT K H a xs) (YPair (fun i => some (.int (i : Nat))) (fun i => xs[i]?)) := by
  refine ⟨fun i _ hi q => ⟨xs, xs[i], q, by simp [hi]⟩, fun _ q => ⟨xs, q, Nat.le_refl _⟩, fun i H v H' _ q y => ?_⟩
  obtain ⟨T, x, h1, h2, h3, h4⟩ := y
  exact ⟨T, .int (i : Nat), x, h1, h2, h3, rfl, h4 xs q⟩

/-! f(k = v, ..): keywords alone -/
section
variable {X : Cx} {CX : CXT} {k : Nat} {f : Addr} {fd : FuncData} {ps ks : List Str} {sp : Sp} {x : Str} {kws : List Keyword} {tk : TA} {E : XK} {p pos : Pos} {g : List Value → List Value → List Value} {gV : List V → List V → List V}
theorem pe_callK0 (F : FnOk X.prog X.w X.K X.mg X.base CX k f fd ps sp) (hr : Room k X.A) (hg : Gl X x) (hm : X.mg x = some (.ref f)) (hk : PySem.W.keepIn X.K (.ref f) = true) (hb : KBinds X.K fd ps ks g gV) (hx : Passes CX X E)
    (hkw : PK X kws tk) (hall : (backToKw pos (keywordEach kws X.env)).all (·.1.isSome) = true := by rfl) (hks : (backToKw pos (keywordEach kws X.env)).filterMap (·.1) = ks := by rfl)
    (hdb : (x == ("__debug__" : Str)) = false := by decide)
    (hpl : ((backTo pos (starEach [] X.env)).any (·.1) || (backToKw pos (keywordEach kws X.env)).any (·.1.isNone)) = false := by rfl) :
    PE X (.Call (.Name x p) [] kws pos) (tCallK sp gV E tNil tk) := by
  refine ⟨fun pins s σ H Q I h => ?_⟩
  refine wpAny_Call_Name_kw (ld_glob I hg hm ?_ hdb)
  refine PySem.W.callWith_KW0 (h₀ := X.base) I.ok.mod.kin hk hall ?_ hpl
  refine thn (hkw.run pos pins s σ H _ I h) fun ws s2 ⟨zs, H2, I2, rz, q2⟩ => ⟨I2.kIn, ?_⟩
  rw [hks]
  exact run_fnk (us := []) (vs := []) F hr hb hx I2 .nil rz q2
end

/-! heaps -/
theorem Same.new {H H' : Hp} {p : Addr} {o : HO} (s : Same H H') (h : H p = none) : Same H (upd H' p o) := fun b u e => by
  rw [upd_ne (ne_of_none e h)]
  exact s b u e
theorem Same.new' {H H' : Hp} {p : Addr} {o : HO} (s : Same H H') (h : H' p = none) : Same H (upd H' p o) := Same.new s (s.free h)
theorem Same.tup {K : PySem.W.Frag} {H H' : Hp} {a : Addr} {xs : List V} (e : Same H H') (h : SqT K H a xs) : SqT K H' a xs := by
  rcases h with (h | ⟨o, h⟩) | h
  · exact .inl (.inl (e _ _ h))
  · exact .inl (.inr ⟨o, e _ _ h⟩)
  · exact .inr h
/-- all but the object at s is as it was -/
def Kp (s : Addr) (H H' : Hp) : Prop := ∀ b o, b ≠ s → H b = some o → H' b = some o
theorem Kp.refl (s : Addr) (H : Hp) : Kp s H H := fun _ _ _ h => h
theorem Kp.trans {s : Addr} {H H1 H2 : Hp} (a : Kp s H H1) (b : Kp s H1 H2) : Kp s H H2 := fun c o n h => b c o n (a c o n h)
theorem Kp.of {s : Addr} {H H' : Hp} (a : Same H H') : Kp s H H' := fun c o _ h => a c o h
theorem Kp.set {s : Addr} {H H' : Hp} {o : HO} (a : Kp s H H') : Kp s H (upd H' s o) := fun c u n h => by rw [upd_ne n]; exact a c u n h
theorem Kp.new {s p : Addr} {H H' : Hp} {o : HO} (a : Kp s H H') (n : H p = none) : Kp s H (upd H' p o) := fun c u nc h => by
  rw [upd_ne (ne_of_none h n)]; exact a c u nc h
theorem Kp.free {s p : Addr} {H H' : Hp} (a : Kp s H H') (ns : p ≠ s) (n : H' p = none) : H p = none := by
  cases q : H p with
  | none => rfl
  | some o => rw [a p o ns q] at n; cases n
theorem flat_ints (l : List Int) : (l.map V.int).all flatV = true := by
  induction l with
  | nil => rfl
  | cons a r ih => rw [List.map_cons, List.all_cons, ih]; rfl
theorem flat_strs (l : List Str) : (l.map V.str).all flatV = true := by
  induction l with
  | nil => rfl
  | cons a r ih => rw [List.map_cons, List.all_cons, ih]; rfl
theorem inV_ints (i : Int) (l : List Int) : inV (.int i) (l.map V.int) = l.contains i := by
  induction l with
  | nil => rfl
  | cons a r ih =>
    unfold inV at ih
    unfold inV
    rw [List.map_cons, List.any_cons, ih, List.contains_cons]
    congr 1
    show decide (a = i) = (i == a)
    by_cases h : a = i
    · subst h; simp
    · rw [decide_eq_false h]
      exact (beq_eq_false_iff_ne.mpr (fun q => h q.symm)).symm
/-! evaluation without effect -/
section
open Evl
variable {K : PySem.W.Frag} {H : Hp} {σ : L2.St} {t : TT} {te tl : TE}
theorem el_lcT {a : Addr} {xs : List V} {j : Nat} {vs : List Nat} (f : Nat → Bool) (v : Nat → V) (h : Ev tl σ H (.ref a)) (hx : SqT K H a xs) (hz : xs.length ≤ 40000) (hw : ∀ x, wipe ((wipe σ vs).set j (some x)) vs = wipe σ vs)
    (ht : ∀ (i : Nat) (x : V) H1, Ex H H1 → xs[i]? = some x → EvT t ((wipe σ vs).set j (some x)) H1 (f i)) (he : ∀ (i : Nat) (x : V) H1, Ex H H1 → xs[i]? = some x → f i = true → Ev te ((wipe σ vs).set j (some x)) H1 (v i)) :
    EvL (tLc (iTup K tl) (gName j) t te vs) σ H (given xs.length f v) := fun H0 e Q q => h H0 e _ fun H1 e1 => ⟨a, rfl, ⟨xs, ex_t (e.trans e1) hx⟩, fun Dl hD =>
  lc_tup (xs := xs) (Cw H1 f v Dl) ⟨hD, Ex.new hD, upd_same⟩ (fun i H' _ p => ex_t ((e.trans e1).trans p.2.1) hx) (fun i x H' hi p => ⟨hw x, cw_turn p (by have := (List.getElem?_eq_some_iff.mp hi).1; omega) (ht i x H1 (e.trans e1) hi) (fun hf => he i x H1 (e.trans e1) hi hf)⟩)
    (fun H' p => q Dl H' (fresh_back e1 p.1) (e1.trans p.2.1) p.2.2)⟩
theorem rv_isN {x : V} : RV (fun x y H Q => y = V.non ∧ Q (.bl (decide (x = V.non))) H) x .non H (.bl (decide (x = .non))) := fun H1 _ _ q => ⟨rfl, q H1 (Ex.refl H1)⟩
theorem rv_notN {x : V} : RV (fun x y H Q => y = V.non ∧ Q (.bl (!decide (x = V.non))) H) x .non H (.bl (!decide (x = .non))) := fun H1 _ _ q => ⟨rfl, q H1 (Ex.refl H1)⟩
theorem rc_isi {x c : V} {t u : Value} {b : Bool} (k : ClsV c u) (ty : ∀ H1, Ex H H1 → TyX K H1 x t) (e : PySem.W.kitOne K t u = some b) : RC (rIsi K) [x, c] H (.bl b) := fun H1 e1 _ q => ⟨x, c, t, u, b, rfl, k, ty H1 e1, e, q H1 (Ex.refl H1)⟩
theorem ty_tup {a : Addr} {xs : List V} (h : H a = some (.tup xs)) : ∀ H1, Ex H H1 → TyX K H1 (.ref a) (.type "tuple") := fun H1 e => .base (.tup (e _ _ h))
theorem ty_lst {a : Addr} {xs : List V} (h : H a = some (.lst xs)) : ∀ H1, Ex H H1 → TyX K H1 (.ref a) (.type "list") := fun H1 e => .base (.lst (e _ _ h))
theorem ty_bl {b : Bool} : ∀ H1, Ex H H1 → TyX K H1 (.bl b) (.type "bool") := fun H1 e => .base (.bl b)
theorem ty_int {i : Int} : ∀ H1, Ex H H1 → TyX K H1 (.int i) (.type "int") := fun H1 e => .base (.int i)
theorem ty_str {x : Str} : ∀ H1, Ex H H1 → TyX K H1 (.str x) (.type "str") := fun H1 e => .base (.str x)
theorem ty_non : ∀ H1, Ex H H1 → TyX K H1 .non (.type "NoneType") := fun H1 e => .base .non
theorem rc_lenL {p : Addr} {xs : List V} (h : SqL K H p xs) : RC (fun xs H Q => ∃ p ys, xs = [V.ref p] ∧ (SqL K H p ys ∨ SqT K H p ys) ∧ Q (.int ys.length) H) [.ref p] H (.int (xs.length : Int)) := fun H1 e _ q => ⟨p, xs, rfl, .inl (ex_l e h), q H1 (Ex.refl H1)⟩
theorem rc_lenT {p : Addr} {xs : List V} (h : SqT K H p xs) : RC (fun xs H Q => ∃ p ys, xs = [V.ref p] ∧ (SqL K H p ys ∨ SqT K H p ys) ∧ Q (.int ys.length) H) [.ref p] H (.int (xs.length : Int)) := fun H1 e _ q => ⟨p, xs, rfl, .inr (ex_t e h), q H1 (Ex.refl H1)⟩
theorem rv_eqD {x y : V} {d e : PyData} (h1 : ∀ H1, Ex H H1 → Dp K H1 x d) (h2 : ∀ H1, Ex H H1 → Dp K H1 y e) (s1 : SeqAt.shaped d = true) (s2 : SeqAt.shaped e = true) : RV (rEqD K) x y H (.bl (PyData.eqv d e)) :=
  fun H1 e1 _ q => ⟨d, e, h1 H1 e1, h2 H1 e1, s1, s2, q H1 (Ex.refl H1)⟩
theorem rv_neD {x y : V} {d e : PyData} (h1 : ∀ H1, Ex H H1 → Dp K H1 x d) (h2 : ∀ H1, Ex H H1 → Dp K H1 y e) (s1 : SeqAt.shaped d = true) (s2 : SeqAt.shaped e = true) : RV (rNeD K) x y H (.bl (!PyData.eqv d e)) :=
  fun H1 e1 _ q => ⟨d, e, h1 H1 e1, h2 H1 e1, s1, s2, q H1 (Ex.refl H1)⟩
theorem dp_bls : ∀ l : List Bool, DpAll K H (l.map V.bl) (l.map PyData.bool)
  | [] => .nil
  | b :: r => .cons (.bl b) (dp_bls r)
theorem dp_ints : ∀ l : List Int, DpAll K H (l.map V.int) (l.map PyData.int)
  | [] => .nil
  | b :: r => .cons (.int b) (dp_ints r)
theorem dp_strs : ∀ l : List Str, DpAll K H (l.map V.str) (l.map PyData.str)
  | [] => .nil
  | b :: r => .cons (.str b) (dp_strs r)
theorem dp_tupB {a : Addr} {l : List Bool} (h : H a = some (.tup (l.map V.bl))) : ∀ H1, Ex H H1 → Dp K H1 (.ref a) (.tuple (l.map PyData.bool)) := fun H1 e => .tup (SqT.of (e _ _ h)) (dp_bls l)
theorem dp_nil {a : Addr} (h : H a = some (.lst [])) : ∀ H1, Ex H H1 → Dp K H1 (.ref a) (.list []) := fun H1 e => .lst (SqL.of (e _ _ h)) .nil
end
/-! shapes of data -/
def Shp (n : Nat) (d : PyData) : Prop := d.canLay0 = true ∧ d.depth ≤ n
theorem shp_all {n : Nat} : ∀ {ds : List PyData}, (∀ d ∈ ds, Shp n d) → PyData.canLayAll0 ds = true ∧ PyData.depthAll ds ≤ n
  | [], _ => ⟨rfl, Nat.zero_le _⟩
  | d :: r, h => by
    obtain ⟨h1, h2⟩ := shp_all (ds := r) fun x hx => h x (List.mem_cons_of_mem _ hx)
    obtain ⟨g1, g2⟩ := h d (List.mem_cons_self ..)
    refine ⟨by simp only [PyData.canLayAll0, g1, h1, Bool.and_self], ?_⟩
    simp only [PyData.depthAll]
    omega
theorem shp_tup {n : Nat} {ds : List PyData} (h : ∀ d ∈ ds, Shp n d) : Shp (n + 1) (.tuple ds) := by
  obtain ⟨h1, h2⟩ := shp_all h
  exact ⟨by simpa only [PyData.canLay0] using h1, by simp only [PyData.depth]; omega⟩
theorem shp_lst {n : Nat} {ds : List PyData} (h : ∀ d ∈ ds, Shp n d) : Shp (n + 1) (.list ds) := by
  obtain ⟨h1, h2⟩ := shp_all h
  exact ⟨by simpa only [PyData.canLay0] using h1, by simp only [PyData.depth]; omega⟩
theorem shp_bl {n : Nat} {b : Bool} : Shp n (.bool b) := ⟨by simp only [PyData.canLay0], by simp only [PyData.depth]; omega⟩
theorem shp_int {n : Nat} {b : Int} : Shp n (.int b) := ⟨by simp only [PyData.canLay0], by simp only [PyData.depth]; omega⟩
theorem shp_non {n : Nat} : Shp n .none := ⟨by simp only [PyData.canLay0], by simp only [PyData.depth]; omega⟩
theorem Shp.ok {n : Nat} {d : PyData} (h : Shp n d) (hn : n ≤ 64 := by decide) : SeqAt.shaped d = true := by
  unfold SeqAt.shaped
  rw [h.1, decide_eq_true (Nat.le_trans h.2 hn)]
  rfl
theorem Shp.same {n : Nat} {d : PyData} (h : Shp n d) : PyData.eqv d d = true := SeqAt.eqv_refl d h.1
theorem shp_bls (l : List Bool) : Shp 1 (.tuple (l.map PyData.bool)) := shp_tup fun d hd => by
  obtain ⟨b, _, rfl⟩ := List.mem_map.mp hd
  exact shp_bl
/-! the rules with K apart (for blocks of comprehensions) -/
section
variable {X : Cx}
theorem kk_isi {K : PySem.W.Frag} (h : X.K = K := by rfl) : CallR X (.builtin "isinstance") (rIsi K) := h ▸ call_isi
theorem kk_in {K : PySem.W.Frag} (h : X.K = K := by rfl) : OpR X (compareOp .In) (rIn K false) := h ▸ op_in_seq
theorem kk_notin {K : PySem.W.Frag} (h : X.K = K := by rfl) : OpR X (compareOp .NotIn) (rIn K true) := h ▸ op_notIn_seq
theorem kk_ixL {K : PySem.W.Frag} (h : X.K = K := by rfl) : IxR X (rIxL K) := h ▸ ix_list
theorem kk_ixT {K : PySem.W.Frag} (h : X.K = K := by rfl) : IxR X (rIxT K) := h ▸ ix_tup
theorem kk_eqD {K : PySem.W.Frag} (hu : X.A.units + 64 < cLine) (h : X.K = K := by rfl) : OpR X (compareOp .Eq) (rEqD K) := h ▸ op_eqD hu
theorem kk_neD {K : PySem.W.Frag} (hu : X.A.units + 64 < cLine) (h : X.K = K := by rfl) : OpR X (compareOp .NotEq) (rNeD K) := h ▸ op_neD hu
end
/-! keyword-only defaults alone, some of them written -/
theorem kbinds0 {K : PySem.W.Frag} {x qual : Str} {params : Arguments} {body : List Stmt} {scope : Scope} {kws : List (Str × V)} {f : Addr} {fd : FuncData} {ps : List Str} (F : FunD K x qual params body scope [] kws f fd) (n : Nat) (ks : List Str) (ms : List (Str × V)) (g : {α : Type} → List α → List α → List α → List α) (hk : kws ≠ []) (hms : ∀ q ∈ ms, q ∈ kws)
    (hrel : ∀ {vs mz zs : List V} {us mv ws : List Value}, Vals vs us → Vals mz mv → Vals zs ws → Vals (g vs mz zs) (g us mv ws))
    (h : ∀ (D : Addr) (doc pm : Value) (an : Option Addr) (cdv ct : Value) (us mv ws : List Value), us.length = n → mv.length = ms.length → ws.length = ks.length →
      KwChain D ((ms.map (·.1)).zip mv) (bindArgs (PySem.W.fnOf x qual params body scope .none (.ref D) doc pm an cdv ct) ⟨us, ks.zip ws⟩) (ps.zip (g us mv ws))) :
    ∃ mv : List Value, KBn K fd ps n ks (fun us ws => g us mv ws) (fun vs zs => g vs (ms.map (·.2)) zs) := by
  obtain ⟨oc, od, dV, kV, doc, pm, an, cdv, ct, osl, rfl, lk, hcd, hD, hK⟩ := F.ex
  rcases hD with ⟨_, rfl⟩ | ⟨e, _⟩
  · rcases hK with e | ⟨D, rfl, hq⟩
    · exact absurd e hk
    · obtain ⟨mv, hl, rk, hks⟩ := kwd_vals (ms := ms) fun q hm => hq q (hms q hm)
      refine ⟨mv, ⟨fun s us ws X l1 l2 => ?_, fun r1 r2 => hrel r1 rk r2⟩⟩
      exact BindsTo.of_looks fun M => KwChain.looks X hks (h D doc pm an cdv ct us mv ws l1 hl l2)
  · exact absurd rfl e
theorem okD {P : Program} {w : World} {K : PySem.W.Frag} {mg : Str → Option Value} {base : Heap} {x qual : Str} {params : Arguments} {body : List Stmt} {scope : Scope} {dvs : List V} {kws : List (Str × V)} {f : Addr} {fd : FuncData} {N ps : List Str} {k : Nat} {sp : Sp} (F : FunD K x qual params body scope dvs kws f fd) (S : FnScope N ps scope) (len : ∀ vs H Q E, sp vs H Q E → vs.length = ps.length)
    (hbody : ∀ (cdv : Value) (A : Around) (outer : List Env) (s : Shared) (H : Hp) (vs : List V) (Q : VK) (E : XK), Room k (A.deeper (envOfC qual scope s.heap.objs.size f cdv)) → sp vs H Q E →
      ∃ t, PSs (cxOf CX0 P w K mg base N qual scope f cdv A outer s H E).nox body t ∧ t { nx := fun _ H' => Q .non H', rt := Q } (start N vs) H) : FnOk P w K mg base CX0 (k + 1) f fd ps sp :=
  F.ok S len fun cdv A outer s H vs Q E hr h => let ⟨t, h1, h2⟩ := hbody cdv A outer s H vs Q E hr h; ⟨t, h1.nox, h2⟩
section
open Evl
theorem q_par {i j : Nat} {ta : TA} {tz : TS} {D : Ends} {σ : L2.St} {H : Hp} {v w : V} (h : EvA ta σ H [v, w]) (k : ∀ H1, Ex H H1 → tz D ((σ.set i (some v)).set j (some w)) H1) : tSeq (tPar i j ta) tz D σ H :=
  h H (Ex.refl H) _ fun H1 e => ⟨v, w, rfl, k H1 e⟩
theorem q_par3 {i j l : Nat} {ta : TA} {tz : TS} {D : Ends} {σ : L2.St} {H : Hp} {v w u : V} (h : EvA ta σ H [v, w, u]) (k : ∀ H1, Ex H H1 → tz D (((σ.set i (some v)).set j (some w)).set l (some u)) H1) : tSeq (tPar3 i j l ta) tz D σ H :=
  h H (Ex.refl H) _ fun H1 e => ⟨v, w, u, rfl, k H1 e⟩
end
end Way

/-! own == with either answer; in, not in, == of tuples over it; own in, len, operators -/
namespace Way
open PySem PySem.Spec PyProof.Rows L2
open AutoSeq1 (wpAny_loadPart')
open MeetsSeq MeetsSeq2 MeetsSeq3 SeqRoads2
section
variable {prog : Program} {w : World} {A : Around} {R : Result → Shared → Prop}
def ListC (prog : Program) (w : World) (A : Around) (E : Value → Shared → Prop) (l : Addr) (x : Value) (N : Nat) (e : Nat → Bool) (I : Shared → Prop) : Prop :=
  ∀ s, I s → ∃ (items : Array Value) (n : Nat), s.heap.get? l = some { cls := .type "list", data := .seq items n } ∧ items.size = N ∧
    ∀ i (h1 : i < items.size), wpAny (model prog w) A.in1 (eqBool items[i] x) (fun r s' => r = e i ∧ I s') E s
theorem contains_loopB (l : Addr) (x : Value) (N : Nat) (e : Nat → Bool) (b : Bool) (I : Shared → Prop) (hl : ListC prog w A (fun e s' => R (.error e) s') l x N e I)
    (hb : b = (List.range N).any e) (fin : ∀ s, I s → R (.ok (.ret (.bool b))) s) (k : Nat) :
    ∀ i : Nat, N - i = k → i ≤ N → (∀ j < i, e j = false) → ∀ s, I s →
      wpAny (model prog w) A.in1 (Builtin.«list.__contains__.loop» ⟨[.ref l, x, rawInt i], []⟩) (GQ.FinOf prog w A R) (fun e s' => R (.error e) s') s := by
  induction k with
  | zero =>
    intro i hk hi hf s h
    obtain ⟨items, n, hl1, hs1, _⟩ := hl _ h
    have hi' : i = N := by omega
    have hb' : b = false := by
      rw [hb, List.any_eq_false]
      intro j hj
      rw [hf j (by rw [hi']; exact List.mem_range.mp hj)]
      exact Bool.false_ne_true
    have hR := fin s h
    rw [hb'] at hR
    obtain ⟨hp, g, d, tk, os⟩ := s
    wp_walk using wpAny_loadPart' hl1
    have hi1 : items[((i : Nat) : Int).toNat]? = none := by simp; omega
    rw [hi1]
    wp_walk
    exact hR
  | succ k ih =>
    intro i hk hi hf s h
    obtain ⟨items, n, hl1, hs1, turn⟩ := hl _ h
    have hlt : i < items.size := by omega
    have ht := turn i hlt
    obtain ⟨hp, g, d, tk, os⟩ := s
    wp_walk using wpAny_loadPart' hl1
    have hi1 : items[((i : Nat) : Int).toNat]? = some items[i] := by simp [hlt]
    have hc : ((i : Int) + 1) = ((i + 1 : Nat) : Int) := by omega
    rw [hi1]
    refine wpAny_bind (wpAny_mono ht (fun r s2 h2 => ?_) fun _ _ x => x)
    obtain ⟨hr, h2⟩ := h2
    subst hr
    cases hb' : e i with
    | true =>
      have hbt : b = true := by
        rw [hb, List.any_eq_true]
        exact ⟨i, List.mem_range.mpr (by omega), hb'⟩
      have hR := fin s2 h2
      rw [hbt] at hR
      obtain ⟨hp2, g2, d2, tk2, os2⟩ := s2
      wp_walk
      exact hR
    | false =>
      have hrec := ih (i + 1) (by omega) (by omega) (fun j hj => by
        rcases Nat.lt_or_ge j i with q | q
        · exact hf j q
        · have : j = i := by omega
          rw [this]; exact hb') s2 h2
      obtain ⟨hp2, g2, d2, tk2, os2⟩ := s2
      wp_walk
      rw [hc]
      exact ⟨plainId_quiet plain_contains_loop _, codeAny_builtin entry_contains_loop (by
        rw [Around.under_plainId plain_contains_loop _]
        exact hrec)⟩
theorem list_containsB (l : Addr) (x : Value) (N : Nat) (e : Nat → Bool) (b : Bool) (I : Shared → Prop) (hl : ListC prog w A (fun e s' => R (.error e) s') l x N e I)
    (hb : b = (List.range N).any e) (fin : ∀ s, I s → R (.ok (.ret (.bool b))) s) {s : Shared} (h : I s) :
    wpAny (model prog w) A.in1 (Builtin.«list.__contains__» ⟨[.ref l, x], []⟩) (GQ.FinOf prog w A R) (fun e s' => R (.error e) s') s := by
  obtain ⟨items, n, hl1, hs1, _⟩ := hl _ h
  have hrec := contains_loopB (A := A) (R := R) l x N e b I hl hb fin _ 0 rfl (Nat.zero_le _) (fun j hj => absurd hj (Nat.not_lt_zero _)) s h
  obtain ⟨hp, g, d, tk, os⟩ := s
  wp_walk using wpAny_loadPart' hl1
  exact ⟨plainId_quiet plain_contains_loop _, codeAny_builtin entry_contains_loop (by
    rw [Around.under_plainId plain_contains_loop _]
    exact hrec)⟩
theorem in_listB {E : Value → Shared → Prop} {l : Addr} {x : Value} {N : Nat} {e : Nat → Bool} {I : Shared → Prop} {Q : Value → Shared → Prop} (hl : ListC prog w A E l x N e I) {s : Shared} (h : I s)
    (fin : ∀ s, I s → Q (.bool ((List.range N).any e)) s) : wpAny (model prog w) A (compareOp .In x (.ref l)) Q E s := by
  obtain ⟨items, n, hl1, hs1, _⟩ := hl _ h
  have hT : s.TypeIs (.ref l) "list" := ⟨_, hl1, rfl⟩
  show wpAny _ A (do return .bool (← contains (.ref l) x)) Q E s
  refine wpAny_bind (wpAny_contains_slot hT F.slot_list_contains (wpAny_mono (GQ.call_here (Q := fun v s' => ∃ b, v = .bool b ∧ Q (.bool b) s') F.slot_list_contains hT F.entry_list_contains (F.args_list_contains_2 _ _) (list_containsB l x N e _ I hl rfl (fun s' hs' => ⟨_, rfl, fin s' hs'⟩) h)) (fun v s' hv => ?_) fun _ _ e => e))
  obtain ⟨b, rfl, hq⟩ := hv
  exact wpAny_truthy_bool (wpAny_pure hq)
theorem notIn_listB {E : Value → Shared → Prop} {l : Addr} {x : Value} {N : Nat} {e : Nat → Bool} {I : Shared → Prop} {Q : Value → Shared → Prop} (hl : ListC prog w A E l x N e I) {s : Shared} (h : I s)
    (fin : ∀ s, I s → Q (.bool (!(List.range N).any e)) s) : wpAny (model prog w) A (compareOp .NotIn x (.ref l)) Q E s := by
  obtain ⟨items, n, hl1, hs1, _⟩ := hl _ h
  have hT : s.TypeIs (.ref l) "list" := ⟨_, hl1, rfl⟩
  show wpAny _ A (do return .bool (!(← contains (.ref l) x))) Q E s
  refine wpAny_bind (wpAny_contains_slot hT F.slot_list_contains (wpAny_mono (GQ.call_here (Q := fun v s' => ∃ b, v = .bool b ∧ Q (.bool (!b)) s') F.slot_list_contains hT F.entry_list_contains (F.args_list_contains_2 _ _) (list_containsB l x N e _ I hl rfl (fun s' hs' => ⟨_, rfl, fin s' hs'⟩) h)) (fun v s' hv => ?_) fun _ _ e => e))
  obtain ⟨b, rfl, hq⟩ := hv
  exact wpAny_truthy_bool (wpAny_pure hq)
end
/-! == of two tuples, item by item, either answer -/
section
variable {prog : Program} {w : World} {A : Around} {R : Result → Shared → Prop}
theorem tuple_eqB (l b : Addr) (items items2 : Array Value) (n n2 : Nat) (dd dd2 : Option Addr) (sl sl2 : Array (Option Value)) (e : Nat → Bool) (I : Shared → Prop)
    (turn : ∀ i (h1 : i < items.size) (h2 : i < items2.size) s, I s → wpAny (model prog w) A.in1 (eqBool items[i] items2[i]) (fun r s' => r = e i ∧ I s') (fun e s' => R (.error e) s') s)
    (fin : ∀ s, I s → R (.ok (.ret (.bool ((List.range (min items.size items2.size)).all e && items.size == items2.size)))) s) {s : Shared} (hl1 : s.heap.get? l = some { cls := .type "tuple", dict := dd, data := .seq items n, slots := sl }) (hb1 : s.heap.get? b = some { cls := .type "tuple", dict := dd2, data := .seq items2 n2, slots := sl2 }) (h : I s) :
    wpAny (model prog w) A.in1 (Builtin.«tuple.__eq__» ⟨[.ref l, .ref b], []⟩) (GQ.FinOf prog w A R) (fun e s' => R (.error e) s') s := by
  have f2 := AutoSeq1.sub_tuple_tuple
  have hZ : (items.toList.zip items2.toList).length = min items.size items2.size := by simp
  have h0 := h
  obtain ⟨hp, g, d, tk, os⟩ := s
  wp_walk using wpAny_loadPart' hl1, wpAny_loadPart' hb1, wpAny_forIn_list _ (fun rest b s' => b.1 = none ∧ ∃ i, rest = (items.toList.zip items2.toList).drop i ∧ i ≤ min items.size items2.size ∧ (∀ j < i, e j = true) ∧ I s') _
  case turn =>
    rintro ⟨y, x⟩ rest b s' ⟨hb', i, hz, hi, hf, hI⟩
    have hlt : i < (items.toList.zip items2.toList).length := by
      rcases Nat.lt_or_ge i (items.toList.zip items2.toList).length with h' | h'
      · exact h'
      · rw [List.drop_of_length_le h'] at hz; cases hz
    have h1 : i < items.size := by omega
    have h2 : i < items2.size := by omega
    rw [List.drop_eq_getElem_cons hlt] at hz
    injection hz with hyx hrest
    have hy : y = items[i] := by have := congrArg Prod.fst hyx; simpa using this
    have hx : x = items2[i] := by have := congrArg Prod.snd hyx; simpa using this
    subst hy hx
    refine wpAny_bind (wpAny_mono (turn i h1 h2 s' hI) (fun r s2 q2 => ?_) fun _ _ x => x)
    obtain ⟨hr, q2⟩ := q2
    subst hr
    cases hq : e i with
    | true =>
      wp_walk
      refine ⟨rfl, i + 1, hrest, by omega, fun j hj => ?_, q2⟩
      rcases Nat.lt_or_ge j i with q | q
      · exact hf j q
      · have : j = i := by omega
        rw [this]; exact hq
    | false =>
      have hR := fin s2 q2
      have hn : (List.range (min items.size items2.size)).all e = false := by
        rw [List.all_eq_false]
        exact ⟨i, List.mem_range.mpr (by omega), by rw [hq]; exact Bool.false_ne_true⟩
      rw [hn] at hR
      wp_walk
      simpa using hR
  case fin =>
    rintro ⟨b1, b2⟩ s' ⟨hb', i, hz, hi, hf, hI⟩
    simp only at hb'
    subst hb'
    have hge : min items.size items2.size ≤ i := by
      rcases Nat.lt_or_ge i (items.toList.zip items2.toList).length with h' | h'
      · rw [List.drop_eq_getElem_cons h'] at hz; cases hz
      · exact hZ ▸ h'
    have hR := fin s' hI
    have hn : (List.range (min items.size items2.size)).all e = true := by
      rw [List.all_eq_true]
      exact fun j hj => hf j (by have := List.mem_range.mp hj; omega)
    rw [hn] at hR
    wp_walk
    simpa [Builtin.Tuple.tupleCompareSizes] using hR
  case h =>
    exact ⟨rfl, 0, rfl, Nat.zero_le _, fun j hj => absurd hj (Nat.not_lt_zero _), h0⟩
theorem rc_tupB {E : Value → Shared → Prop} {l b : Addr} {items items2 : Array Value} {e : Nat → Bool} {Q : Value → Shared → Prop} (hu : A.units < cLine) (I : Shared → Prop) {s : Shared}
    (hl : s.heap.IsTuple l items) (hb : s.heap.IsTuple b items2)
    (turn : ∀ i (h1 : i < items.size) (h2 : i < items2.size) s, I s → wpAny (model prog w) A.in1 (eqBool items[i] items2[i]) (fun r s' => r = e i ∧ I s') E s)
    (fin : ∀ s, I s → Q (.bool ((List.range (min items.size items2.size)).all e && items.size == items2.size)) s) (h : I s) : wpAny (model prog w) A (richCompare .Eq (.ref l) (.ref b)) Q E s := by
  obtain ⟨⟨cls, dd, data, sl⟩, ho, hc, n, hd⟩ := id hl
  obtain ⟨⟨cls2, dd2, data2, sl2⟩, ho2, hc2, n2, hd2⟩ := id hb
  simp only at hc hd hc2 hd2
  subst hc hd hc2 hd2
  refine wpAny_richCompare_same_room (op := .Eq) ⟨_, ho, rfl⟩ ⟨_, ho2, rfl⟩ F.slot_tuple_eq (GQ.call_here F.slot_tuple_eq ⟨_, ho, rfl⟩ F.entry_tuple_eq (F.args_tuple_eq_2 _ _) ?_) hu
  exact tuple_eqB (R := wants (fun v s' => v ≠ .notImplemented ∧ Q v s') E) l b items items2 n n2 dd dd2 sl sl2 e I turn (fun s' q => ⟨(fun x => nomatch x), fin s' q⟩) ho ho2 h
end

/-! the answers of == as a relation -/
abbrev EqvB := V → V → Hp → Bool → Prop
def MonB (D : EqvB) : Prop := ∀ x y H H' b, Ext H H' → D x y H b → D x y H' b
def EqB (X : Cx) (n : Nat) (D : EqvB) : Prop :=
  ∀ (A : Around) (pins : List (Addr × Obj)) (s : Shared) (σ : L2.St) (H : Hp) (x y : V) (u v : Value) (b : Bool), Sub X n A → Inv X pins σ H s → RelV x u → RelV y v → D x y H b →
    wpAny (model X.prog X.w) A (eqBool u v) (fun r s' => r = b ∧ LoopI X pins σ H s') X.xe s
def RcB (X : Cx) (n : Nat) (D : EqvB) : Prop :=
  ∀ (A : Around) (pins : List (Addr × Obj)) (s : Shared) (σ : L2.St) (H : Hp) (x y : V) (u v : Value) (b : Bool), Sub X n A → Inv X pins σ H s → RelV x u → RelV y v → D x y H b →
    wpAny (model X.prog X.w) A (richCompare .Eq u v) (fun r s' => r = .bool b ∧ LoopI X pins σ H s') X.xe s
/-- an own ==: the promise -/
def spEqB (R : Addr → V → Hp → Bool → Prop) : Sp := fun vs H Q _ => ∃ a y b, vs = [.ref a, y] ∧ R a y H b ∧ ∀ H', Ext H H' → Q (.bl b) H'
/-- x an instance of C, y a value of a type that does not go first -/
def DOwn (K : PySem.W.Frag) (C : Addr) (R : Addr → V → Hp → Bool → Prop) : EqvB := fun x y H b => ∃ a dx fs t, x = .ref a ∧ H a = some (.ins C dx fs) ∧ TyX K H y t ∧ PySem.W.notFirst K C t = true ∧ R a y H b
section
variable {X : Cx} {n m : Nat} {D : EqvB}
theorem EqB.mono (h : EqB X n D) (hn : n ≤ m) : EqB X m D := fun A pins s σ H x y u v b sb => h A pins s σ H x y u v b (sb.mono hn)
theorem RcB.mono (h : RcB X n D) (hn : n ≤ m) : RcB X m D := fun A pins s σ H x y u v b sb => h A pins s σ H x y u v b (sb.mono hn)
/-- a call of a def within a builtin -/
theorem own_call {CX : CXT} {f : Addr} {fd : FuncData} {ps : List Str} {sp : Sp} {E : XK} {A : Around} {pins : List (Addr × Obj)} {s : Shared} {σ : L2.St} {H : Hp} {vs : List V} {us : List Value} {Q : VK} (F : FnOk X.prog X.w X.K X.mg X.base CX n f fd ps sp) (hb : Binds X.K fd ps []) (hx : Passes CX X E)
    (sb : Sub X n A) (I : Inv X pins σ H s) (r2 : Vals vs us) (hsp : sp vs H Q E) : wpAny (model X.prog X.w) A (call (.ref f) us) (EP X pins σ Q) X.xe s := by
  have e0 : Env0 X.prog X.w X.K X.mg X.base A X.stack s H := by
    have e := I.env0
    exact ⟨by rw [sb.fr]; exact e.frames, e.mod, e.bs, e.bsz, e.funs, e.frf, e.hok, e.bare⟩
  have hl := F.len _ _ _ _ hsp
  refine wpAny_call (codeAny_mono (F.run A X.stack s H ⟨us, []⟩ us vs _ E sb.room e0 (by
    have := hb s us I.kIn (by simpa [← r2.length] using hl)
    simpa using this) r2 hsp) fun r s' hq => ?_)
  cases r with
  | error e => exact hx pins σ H s e s' I hq
  | ok fl =>
    cases fl with
    | ret w => exact I.after hq
    | next => exact False.elim hq
    | brk => exact False.elim hq
    | cont => exact False.elim hq
theorem rcB_own {CX : CXT} {C f : Addr} {fd : FuncData} {ps : List Str} {R : Addr → V → Hp → Bool → Prop} {E : XK} (F : FnOk X.prog X.w X.K X.mg X.base CX n f fd ps (spEqB R))
    (hs : PySem.W.findIn X.K (.ref C) "__eq__" = some (some (.ref f))) (hf : PySem.W.isFn X.K (.ref f) = true) (hb : Binds X.K fd ps []) (hx : Passes CX X E) : RcB X n (DOwn X.K C R) := by
  intro A pins s σ H x y u v b sb I rx ry d
  obtain ⟨a, dx, fs, t, rfl, ha, ty, hn, hr⟩ := d
  cases rx
  obtain ⟨mA, J, _⟩ := ins_get I.hok ha
  obtain ⟨od, J, _⟩ := J.look
  obtain ⟨m, hF⟩ := I.fr
  obtain ⟨P, Z, p, hx'⟩ := kit_of I ry ty
  refine PySem.W.cmp_K (op := .Eq) (tb := t) sb.room.units0 hF I.ok.mod.kin J (Z.ty _ _ I.kIn p) hn hs hf ?_
  refine wpAny_mono (own_call (vs := [.ref a, y]) (Q := fun v H' => v = .bl b ∧ Ext H H') F hb hx sb I (.cons rfl (.cons ry .nil)) ⟨a, y, b, rfl, hr, fun H' e => ⟨rfl, e⟩⟩) (fun r s' hq => ?_) fun _ _ x => x
  obtain ⟨z, H', I', rz, ez, ex⟩ := hq
  subst ez
  cases rz
  exact ⟨rfl, H', I', ex⟩
/-- == inside a builtin: an object is equal to itself -/
theorem RcB.eqB (h : RcB X n D) (hr : ∀ x y H b, D x y H b → ∃ a c, x = .ref a ∧ y = .ref c ∧ (a = c → b = true)) : EqB X n D := by
  intro A pins s σ H x y u v b sb I rx ry d
  obtain ⟨a, c, rfl, rfl, hid⟩ := hr _ _ _ _ d
  cases rx
  cases ry
  by_cases hab : a = c
  · subst hab
    exact SeqAt.EqAt.same (A := A) (s := s) (.ref a) X.prog X.w X.xe _ ⟨(hid rfl).symm, H, I, Ext.rfl'⟩
  · refine GQ.eqBool_refG hab (wpAny_mono (h A pins s σ H (.ref a) (.ref c) _ _ b sb I rfl rfl d) (fun r s' q => ?_) fun _ _ x => x)
    obtain ⟨hr', q⟩ := q
    exact ⟨b, hr', rfl, q⟩
/-- x == y -/
def rEqB (D : EqvB) : R2 := fun x y H Q => ∃ b, D x y H b ∧ ∀ H', Ext H H' → Q (.bl b) H'
theorem op_eqB (h : RcB X n D) (hr : Room n X.A) : OpR X (compareOp .Eq) (rEqB D) := by
  intro pins s σ H x y v u Q I rx ry hq
  obtain ⟨b, d, q⟩ := hq
  show wpAny (model X.prog X.w) X.A (richCompare .Eq v u) (EP X pins σ Q) X.xe s
  refine wpAny_mono (h X.A pins s σ H x y v u b ⟨hr, rfl⟩ I rx ry d) (fun r s' z => ?_) fun _ _ x => x
  obtain ⟨hr', H', I', e⟩ := z
  subst hr'
  exact ⟨.bl b, H', I', rfl, q H' e⟩
/-- the answers item by item -/
def AllB (D : EqvB) (e : Nat → Bool) (xs ys : List V) (H : Hp) : Prop := ∀ (i : Nat) x y, xs[i]? = some x → ys[i]? = some y → D x y H (e i)
def DTupB (K : PySem.W.Frag) (D : EqvB) : EqvB := fun x y H b => ∃ p q xs ys e, x = .ref p ∧ y = .ref q ∧ SqT K H p xs ∧ SqT K H q ys ∧ AllB D e xs ys H ∧ b = ((List.range (min xs.length ys.length)).all e && xs.length == ys.length)
theorem arr_at {xs : List V} {its : List Value} (r : Vals xs its) {i : Nat} (h1 : i < its.toArray.size) : ∃ x, xs[i]? = some x ∧ RelV x its.toArray[i] := by
  have g1 : its[i]? = some its.toArray[i] := by
    have h1' : i < its.length := by simpa using h1
    rw [List.getElem?_eq_getElem h1'] <;> simp
  have k1 : i < xs.length := by rw [r.length]; simpa using h1
  obtain ⟨u, hu, ru⟩ := r.get (List.getElem?_eq_getElem k1)
  rw [g1] at hu
  exact ⟨_, List.getElem?_eq_getElem k1, Option.some.inj hu ▸ ru⟩
theorem rcB_tup (hD : MonB D) (h : EqB X n D) : RcB X (n + 1) (DTupB X.K D) := by
  intro A pins s σ H x y u v b sb I rx ry d
  obtain ⟨p, q, xs, ys, e, rfl, rfl, hp, hq, ha, rfl⟩ := d
  cases rx
  cases ry
  obtain ⟨its, r, t1, z⟩ := I.tuple hp
  obtain ⟨its2, r2, t2, z2⟩ := I.tuple hq
  refine rc_tupB (e := e) sb.room.units0 (fun s' => LoopI X pins σ H s') t1 t2 (fun i h1 h2 s' q => ?_) (fun s' q => ?_) ⟨H, I, Ext.rfl'⟩
  · obtain ⟨H1, I1, e1⟩ := q
    obtain ⟨a, ga, ra⟩ := arr_at r h1
    obtain ⟨c, gc, rc⟩ := arr_at r2 h2
    refine wpAny_mono (h A.in1 pins s' σ H1 a c _ _ (e i) sb.in1 I1 ra rc (hD _ _ _ _ _ e1 (ha i a c ga gc))) (fun r s2 q => ?_) fun _ _ x => x
    obtain ⟨hr, H2, I2, e2⟩ := q
    exact ⟨hr, H2, I2, e1.trans e2⟩
  · refine ⟨?_, q⟩
    rw [List.size_toArray, List.size_toArray, ← r.length, ← r2.length]
/-- x in a list, by == -/
def rInB (D : EqvB) (neg : Bool) : R2 := fun x y H Q => ∃ p ys e, y = .ref p ∧ H p = some (.lst ys) ∧ (∀ (i : Nat) z, ys[i]? = some z → D z x H (e i)) ∧ ∀ H', Ext H H' → Q (.bl (if neg then !(List.range ys.length).any e else (List.range ys.length).any e)) H'
theorem list_C (hD : MonB D) (h : EqB X n D) {A : Around} (sb : Sub X (n + 1) A) {pins : List (Addr × Obj)} {σ : L2.St} {H : Hp} {p : Addr} {x : V} {v : Value} {ys : List V} {e : Nat → Bool} (rx : RelV x v) (hp : H p = some (.lst ys)) (he : ∀ (i : Nat) z, ys[i]? = some z → D z x H (e i)) :
    ListC X.prog X.w A X.xe p v ys.length e (fun s' => LoopI X pins σ H s') := by
  intro s' q
  obtain ⟨H1, I1, e1⟩ := id q
  obtain ⟨z, its, k, r, g⟩ := I1.hok p _ (e1 _ _ hp)
  refine ⟨its.toArray, k, g, by rw [List.size_toArray, ← r.length], fun i h1 => ?_⟩
  obtain ⟨a, ga, ra⟩ := arr_at r h1
  refine wpAny_mono (h A.in1 pins s' σ H1 a x _ _ (e i) sb.in1 I1 ra rx (hD _ _ _ _ _ e1 (he i a ga))) (fun r s2 q => ?_) fun _ _ x => x
  obtain ⟨hr, H2, I2, e2⟩ := q
  exact ⟨hr, H2, I2, e1.trans e2⟩
theorem op_inB (hD : MonB D) (h : EqB X n D) (hr : Room (n + 1) X.A) : OpR X (compareOp .In) (rInB D false) := by
  intro pins s σ H x y v u Q I rx ry hq
  obtain ⟨p, ys, e, rfl, hp, he, q⟩ := hq
  cases ry
  exact in_listB (list_C hD h ⟨hr, rfl⟩ rx hp he) ⟨H, I, Ext.rfl'⟩ fun s' ⟨H1, I1, e1⟩ => ⟨.bl ((List.range ys.length).any e), H1, I1, rfl, q H1 e1⟩
theorem op_notInB (hD : MonB D) (h : EqB X n D) (hr : Room (n + 1) X.A) : OpR X (compareOp .NotIn) (rInB D true) := by
  intro pins s σ H x y v u Q I rx ry hq
  obtain ⟨p, ys, e, rfl, hp, he, q⟩ := hq
  cases ry
  exact notIn_listB (list_C hD h ⟨hr, rfl⟩ rx hp he) ⟨H, I, Ext.rfl'⟩ fun s' ⟨H1, I1, e1⟩ => ⟨.bl (!(List.range ys.length).any e), H1, I1, rfl, q H1 e1⟩
end
end Way

/-! own !=, in, len, operators of two of one class -/
namespace Way
open PySem PySem.Spec PyProof.Rows L2
section
variable {M : Model} {prog : Program} {w : World} {A : Around} {E : Value → Shared → Prop} {s : Shared} {K : PySem.W.Frag} {x C f : Addr} {ox : Obj} {od : Option Obj} {b tb : Value}
theorem objNe_K {Q : PySem.Fin → Shared → Prop} (hu : A.units < cLine) (X : K.In s.heap) (I : PySem.W.InstAt s.heap x ox C od) (hs : PySem.W.findIn K (.ref C) "__eq__" = some (some (.ref f))) (hf : PySem.W.isFn K (.ref f) = true)
    (hcall : wpAny (model prog w) A (call (.ref f) [.ref x, b]) (fun v s' => ∃ c, v = .bool c ∧ Q (.done (.ret (.bool (!c)))) s') E s) :
    wpAny (model prog w) A (Builtin.«object.__ne__» ⟨[.ref x, b], []⟩) Q E s := by
  unfold Builtin.«object.__ne__»
  repeat (first
    | with_reducible refine wpAny_cRoomFor hu ?_
    | (refine wpAny_bind (m := callSpecialIfBound? (.ref x) (Str.ofString "__eq__") [b])
        (PySem.W.ifBound_K X I hs hf (wpAny_mono hcall (fun r s' hr => by
          obtain ⟨b, rfl, hq⟩ := hr
          repeat (first | exact hq | exact wpAny_pure hq | exact wpAny_truthy_bool hq | (refine wpAny_bind (m := truthy (.bool _)) (wpAny_truthy_bool ?_)) | wp_step)) fun _ _ e => e)))
    | wp_step)
theorem call_objNe {Q : Value → Shared → Prop} (hu : A.in1.units < cLine) (X : K.In s.heap) (I : PySem.W.InstAt s.heap x ox C od) (hm : PySem.W.mroIn K C (.type "object") = some true) (hs : PySem.W.findIn K (.ref C) "__eq__" = some (some (.ref f))) (hf : PySem.W.isFn K (.ref f) = true)
    (hcall : wpAny (model prog w) A.in1 (call (.ref f) [.ref x, b]) (fun v s' => ∃ c, v = .bool c ∧ Q (.bool (!c)) s') E s) :
    wpAny (model prog w) A (call (.builtin "object.__ne__") [.ref x, b]) Q E s :=
  wpAny_call (codeAny_call_builtin F.cmp_object.ne.plain F.cmpEntry_ne (PySem.W.check_slot F.cmpKind_ne F.cmpSplit_ne (I.type.andThen (PySem.W.looks_mroIn X hm)) (F.cmpArgs_ne _ _) (objNe_K hu X I hs hf hcall)))
theorem ifBound_objNe {args : List Value} {Q : Option Value → Shared → Prop} (X : K.In s.heap) (I : PySem.W.InstAt s.heap x ox C od) (hs : PySem.W.findIn K (.ref C) "__ne__" = some (some (.builtin "object.__ne__")))
    (h : wpAny M A (call (.builtin "object.__ne__") (.ref x :: args)) (fun v => Q (some v)) E s) : wpAny M A (callSpecialIfBound? (.ref x) "__ne__" args) Q E s := by
  simp only [callSpecialIfBound?, bindSpecialIfBound?]
  refine wpAny_holding (wpAny_bind (wpAny_bind (wpAny_bind (I.type.here ((PySem.W.looks_findIn X hs).here ?_)))))
  refine wpAny_bind (wpAny_askSetting (wpAny_ite ?_))
  have fin : wpAny M A (call (.builtin "object.__ne__") ([.ref x] ++ args) >>= fun v => pure (some v)) Q E s := wpAny_bind (wpAny_mono h (fun v s' h' => wpAny_pure h') fun _ _ h' => h')
  split
  · exact wpAny_bind (wpAny_of_eq (F.cmp_object.ne.bind _) (wpAny_pure (by exact fin)))
  · exact wpAny_tryCatch (wpAny_bind (wpAny_of_eq (F.cmp_object.ne.bind _) (wpAny_pure (by exact fin))))
theorem rc_neK {Q : Value → Shared → Prop} (hu : A.units < cLine) (hu1 : A.in1.units < cLine) (X : K.In s.heap) (I : PySem.W.InstAt s.heap x ox C od) (hm : PySem.W.mroIn K C (.type "object") = some true) (hb : PySem.W.Looks (model prog w) s.heap (typeOf b) tb) (hn : PySem.W.notFirst K C tb = true)
    (hs : PySem.W.findIn K (.ref C) "__eq__" = some (some (.ref f))) (hne : PySem.W.findIn K (.ref C) "__ne__" = some (some (.builtin "object.__ne__"))) (hf : PySem.W.isFn K (.ref f) = true)
    (h : wpAny (model prog w) A.in1 (call (.ref f) [.ref x, b]) (fun v s' => ∃ c, v = .bool c ∧ Q (.bool (!c)) s') E s) : wpAny (model prog w) A (richCompare .NotEq (.ref x) b) Q E s := by
  have one : wpAny (model prog w) A (tryCompare (.ref x) "__ne__" b) (fun r s' => ∃ v, r = some v ∧ Q v s') E s := by
    unfold tryCompare
    refine wpAny_bind (ifBound_objNe X I hne (call_objNe hu1 X I hm hs hf (wpAny_mono h (fun v s' hv => ?_) fun _ _ e => e)))
    obtain ⟨c, rfl, hq⟩ := hv
    exact ⟨c, rfl, wpAny_pure ⟨_, rfl, hq⟩⟩
  unfold richCompare
  simp only [oneThing_ref, cmpInfo_NotEq]
  refine wpAny_holding (wpAny_bind (wpAny_cRoomFor hu ?_))
  refine wpAny_bind (I.type.here (wpAny_bind (hb.here ?_)))
  split
  · rename_i q
    have e : PySem.W.subIn K tb (.ref C) = some false := by
      rcases Bool.or_eq_true_iff.mp hn with e | e
      · rw [beq_iff_eq.mp e] at q; simp at q
      · exact beq_iff_eq.mp e
    refine wpAny_bind ((PySem.W.looks_subIn X e).here ?_)
    simp only [Bool.false_eq_true, if_false]
    refine wpAny_bind (wpAny_mono one (fun r s' z => ?_) fun _ _ e => e)
    obtain ⟨v, rfl, hq⟩ := z
    exact wpAny_pure hq
  · refine wpAny_bind (wpAny_pure ?_)
    simp only [Bool.false_eq_true, if_false]
    refine wpAny_bind (wpAny_mono one (fun r s' z => ?_) fun _ _ e => e)
    obtain ⟨v, rfl, hq⟩ := z
    exact wpAny_pure hq
end
section
variable {X : Cx} {n : Nat} {CX : CXT} {C f : Addr} {fd : FuncData} {ps : List Str} {sp : Sp} {E : XK}
/-- x != y, by the own == of x's class -/
def rNeB (D : EqvB) : R2 := fun x y H Q => ∃ b, D x y H b ∧ ∀ H', Ext H H' → Q (.bl (!b)) H'
theorem op_neB {R : Addr → V → Hp → Bool → Prop} (F : FnOk X.prog X.w X.K X.mg X.base CX n f fd ps (spEqB R)) (hm : PySem.W.mroIn X.K C (.type "object") = some true)
    (hs : PySem.W.findIn X.K (.ref C) "__eq__" = some (some (.ref f))) (hne : PySem.W.findIn X.K (.ref C) "__ne__" = some (some (.builtin "object.__ne__"))) (hf : PySem.W.isFn X.K (.ref f) = true) (hb : Binds X.K fd ps []) (hx : Passes CX X E) (hr : Room (n + 1) X.A) :
    OpR X (compareOp .NotEq) (rNeB (DOwn X.K C R)) := by
  intro pins s σ H x y v u Q I rx ry hq
  obtain ⟨b, ⟨a, dx, fs, t, rfl, ha, ty, hn, hR⟩, q⟩ := hq
  cases rx
  obtain ⟨mA, J, _⟩ := ins_get I.hok ha
  obtain ⟨od, J, _⟩ := J.look
  obtain ⟨P, Z, p, hx'⟩ := kit_of I ry ty
  show wpAny (model X.prog X.w) X.A (richCompare .NotEq (.ref a) u) (EP X pins σ Q) X.xe s
  have sb : Sub X (n + 1) X.A := ⟨hr, rfl⟩
  refine rc_neK hr.units0 hr.in1.units0 I.kIn J hm (Z.ty _ _ I.kIn p) hn hs hne hf ?_
  refine wpAny_mono (own_call (vs := [.ref a, y]) (Q := fun v H' => v = .bl b ∧ Ext H H') F hb hx sb.in1 I (.cons rfl (.cons ry .nil)) ⟨a, y, b, rfl, hR, fun H' e => ⟨rfl, e⟩⟩) (fun r s' hq => ?_) fun _ _ x => x
  obtain ⟨z, H', I', rz, ez, ex⟩ := hq
  subst ez
  cases rz
  exact ⟨b, rfl, .bl (!b), H', I', rfl, q H' ex⟩
/-- x in o, o of a class with its own __contains__ -/
def rInO (C : Addr) (sp : Sp) (E : XK) (neg : Bool) : R2 := fun x y H Q => ∃ a dx fs, y = .ref a ∧ H a = some (.ins C dx fs) ∧ sp [.ref a, x] H (fun v H' => ∃ b, v = .bl b ∧ Q (.bl (if neg then !b else b)) H') E
theorem op_inO (F : FnOk X.prog X.w X.K X.mg X.base CX n f fd ps sp) (hs : PySem.W.findIn X.K (.ref C) "__contains__" = some (some (.ref f))) (hf : PySem.W.isFn X.K (.ref f) = true) (hb : Binds X.K fd ps []) (hx : Passes CX X E) (hr : Room n X.A) :
    OpR X (compareOp .In) (rInO C sp E false) := by
  intro pins s σ H x y v u Q I rx ry hq
  obtain ⟨a, dx, fs, rfl, ha, q⟩ := hq
  cases ry
  obtain ⟨mA, J, _⟩ := ins_get I.hok ha
  obtain ⟨od, J, _⟩ := J.look
  obtain ⟨m, hF⟩ := I.fr
  refine PySem.W.in_K hF I.ok.mod.kin J hs hf (wpAny_mono (own_call (vs := [.ref a, x]) F hb hx ⟨hr, rfl⟩ I (.cons rfl (.cons rx .nil)) q) (fun r s' hq => ?_) fun _ _ x => x)
  obtain ⟨z, H', I', rz, b, ez, q⟩ := hq
  subst ez
  cases rz
  exact wpAny_truthy_bool ⟨.bl b, H', I', rfl, q⟩
theorem op_notInO (F : FnOk X.prog X.w X.K X.mg X.base CX n f fd ps sp) (hs : PySem.W.findIn X.K (.ref C) "__contains__" = some (some (.ref f))) (hf : PySem.W.isFn X.K (.ref f) = true) (hb : Binds X.K fd ps []) (hx : Passes CX X E) (hr : Room n X.A) :
    OpR X (compareOp .NotIn) (rInO C sp E true) := by
  intro pins s σ H x y v u Q I rx ry hq
  obtain ⟨a, dx, fs, rfl, ha, q⟩ := hq
  cases ry
  obtain ⟨mA, J, _⟩ := ins_get I.hok ha
  obtain ⟨od, J, _⟩ := J.look
  obtain ⟨m, hF⟩ := I.fr
  refine PySem.W.notIn_K hF I.ok.mod.kin J hs hf (wpAny_mono (own_call (vs := [.ref a, x]) F hb hx ⟨hr, rfl⟩ I (.cons rfl (.cons rx .nil)) q) (fun r s' hq => ?_) fun _ _ x => x)
  obtain ⟨z, H', I', rz, b, ez, q⟩ := hq
  subst ez
  cases rz
  exact wpAny_truthy_bool ⟨.bl (!b), H', I', rfl, q⟩
/-- len(o) by an own __len__ -/
def rLenO (C : Addr) (sp : Sp) (E : XK) : List V → Hp → VK → Prop := fun xs H Q => ∃ a dx fs, xs = [.ref a] ∧ H a = some (.ins C dx fs) ∧ sp [.ref a] H (fun v H' => ∃ i, v = .int i ∧ (0 ≤ i ∧ i < 2 ^ 63) ∧ Q (.int i) H') E
theorem call_lenO (F : FnOk X.prog X.w X.K X.mg X.base CX n f fd ps sp) (hs : PySem.W.findIn X.K (.ref C) "__len__" = some (some (.ref f))) (hf : PySem.W.isFn X.K (.ref f) = true) (hb : Binds X.K fd ps []) (hx : Passes CX X E) (hr : Room (n + 1) X.A) :
    CallR X (.builtin "len") (rLenO C sp E) := by
  intro pins s σ H xs us Q I r hq
  obtain ⟨a, dx, fs, rfl, ha, q⟩ := hq
  obtain ⟨u, rfl, rx⟩ := vals1 r
  cases rx
  obtain ⟨mA, J, _⟩ := ins_get I.hok ha
  obtain ⟨od, J, _⟩ := J.look
  obtain ⟨m, hF⟩ := I.fr
  have sb : Sub X (n + 1) X.A := ⟨hr, rfl⟩
  refine PySem.W.len_K hF I.ok.mod.kin J hs hf (wpAny_mono (own_call (vs := [.ref a]) F hb hx sb.in1 I (.cons rfl .nil) q) (fun r s' hq => ?_) fun _ _ x => x)
  obtain ⟨z, H', I', rz, i, ez, hi, q⟩ := hq
  subst ez
  obtain ⟨t, rfl⟩ := rz
  exact ⟨hi, .int i, H', I'.tok _, ⟨_, rfl⟩, q⟩
/-- a | b, a & b of two instances of one class -/
def rBinO (C : Addr) (sp : Sp) (E : XK) : R2 := fun x y H Q => ∃ a c dx dy fs gs, x = .ref a ∧ y = .ref c ∧ H a = some (.ins C dx fs) ∧ H c = some (.ins C dy gs) ∧ sp [.ref a, .ref c] H Q E
theorem op_binO {op : Operator} (F : FnOk X.prog X.w X.K X.mg X.base CX n f fd ps sp) (hc : PySem.W.selfFirst X.K C = true) (hs : PySem.W.findIn X.K (.ref C) (PySem.dunder op.info.2) = some (some (.ref f))) (hf : PySem.W.isFn X.K (.ref f) = true) (hb : Binds X.K fd ps []) (hx : Passes CX X E) (hr : Room n X.A) :
    OpR X (binaryOp op) (rBinO C sp E) := by
  intro pins s σ H x y v u Q I rx ry hq
  obtain ⟨a, c, dx, dy, fs, gs, rfl, rfl, ha, hc', q⟩ := hq
  cases rx
  cases ry
  obtain ⟨mA, J, _⟩ := ins_get I.hok ha
  obtain ⟨od, J, _⟩ := J.look
  obtain ⟨mB, J2, _⟩ := ins_get I.hok hc'
  obtain ⟨od2, J2, _⟩ := J2.look
  obtain ⟨m, hF⟩ := I.fr
  refine PySem.W.binop_K hF I.ok.mod.kin J J2.type hc hs hf (wpAny_mono (own_call (vs := [.ref a, .ref c]) F hb hx ⟨hr, rfl⟩ I (.cons rfl (.cons rfl .nil)) q) (fun r s' hq => ?_) fun _ _ x => x)
  obtain ⟨z, H', I', rz, q⟩ := hq
  have ok : EP X pins σ Q r s' := ⟨z, H', I', rz, q⟩
  cases r with
  | notImplemented => cases z <;> first | (obtain ⟨t, ht⟩ := rz; cases ht) | cases rz
  | _ => exact ok
end
end Way

/-! an own __iter__ that says: return iter(self.f), f a tuple -/
namespace Way
open PySem PySem.Spec PyProof.Rows L2
abbrev titObj (t : Addr) (i : Nat) : Obj := { cls := .type "tuple_iterator", data := .fields #[.ref t, .int i 0] }
theorem call_iterT {prog : Program} {w : World} {A : Around} {E : Value → Shared → Prop} {s : Shared} {t : Addr} {items : Array Value} {Q : Value → Shared → Prop} (ht : s.heap.IsTuple t items) (h : Q (.ref s.heap.objs.size) { s with heap := s.heap.push (titObj t 0) }) :
    wpAny (model prog w) A (call (.builtin "iter") [.ref t]) Q E s := by
  refine Calls.call_function_entry (by decide +kernel) (by decide +kernel) PySem.W.kdk_entry_iter (PySem.W.kdk_args_iter _) ?_
  unfold Builtin.«iter»
  refine wpAny_bind (m := someArgs "iter" 1 2 _) (wpAny_of_eq (a := [Value.ref t]) (by first | rfl | kernel_rfl!) ?_)
  show wpAny _ _ (pyIter (.ref t) >>= _) _ _ _
  refine wpAny_bind (wpAny_pyIter_tuple ht ?_)
  exact wpAny_pure ⟨_, rfl, h⟩
/-- what the def at f promises: a new iterator over the tuple -/
def ItFn (P : Program) (w : World) (K : PySem.W.Frag) (mg : Str → Option Value) (base : Heap) (k : Nat) (f C : Addr) (fld : Str) : Prop :=
  ∀ (A : Around) (outer : List Env) (s : Shared) (H : Hp) (a dx t : Addr) (fs : List (Str × V)) (xs : List V), Room k A → Env0 P w K mg base A outer s H → H a = some (.ins C dx fs) → fs.lookup fld = some (.ref t) → SqT K H t xs →
    codeAny (model P w) A (.call (.ref f) ⟨[.ref a], []⟩) (fun r s' => ∃ q, r = .ok (.ret (.ref q)) ∧ CE outer P w H s (fun _ H' => H' = H) (.ref q) s' ∧ s.heap.objs.size ≤ q ∧ s'.heap.get? q = some (titObj t 0)) s
theorem itFn_of {P : Program} {w : World} {K : PySem.W.Frag} {mg : Str → Option Value} {base : Heap} {k : Nat} {f C : Addr} {x qual fld : Str} {st : Stmt} {fd : FuncData} {N : List Str} {p1 p2 p3 p4 p5 : Pos} (F : Fun K x qual st f fd) (S : FnScope N ["self"] (defScope st)) (hN : N[0]? = some ("self" : Str))
    (hb : defBody st = [.Return (some (.Call (.Name "iter" p1) [.Attribute (.Name "self" p2) fld p3] [] p4)) p5]) (hk : (defScope st).names.lookup ("iter" : Str) = some .globalImplicit) (hm : mg "iter" = none) (c : Cls K C) (n : NoAttr K C fld) (B : Binds K fd ["self"] []) : ItFn P w K mg base (k + 1) f C fld := by
  intro A outer s H a dx t fs xs hr e0 ha l ht
  obtain ⟨oc, od, kV, doc, pm, an, cdv, ct, osl, rfl, lk, hcd⟩ := F.ex
  have KX : K.In s.heap := e0.mod.kin.keeps fun b o e => (e0.bs b o e).1
  have lim : s.heap.NoLimit := e0.mod.nolimit.keeps fun b o e => (e0.bs b o e).1
  have hkind : ∀ y ∈ (["self"] : List Str).zip [Value.ref a], (defScope st).names.lookup y.1 = some .local ∨ ((defScope st).names.lookup y.1 = some .cell ∧ ((cellsFrom (s.heap.objs.size + 1) (defScope st).names []).lookup y.1).isSome = true) := fun ⟨n, v⟩ hy => by
    rcases S.par n (List.of_mem_zip hy).1 with q | q
    · exact .inl q
    · exact .inr ⟨q, PySem.W.cellsFrom_some _ _ _ (.inl q)⟩
  refine codeAny_call_function hr.depth (KX _ _ lk) rfl S.co S.gen rfl (PySem.W.codeRec_of KX hcd) ((B s [.ref a] KX rfl) _ _ _ _ ?_)
  refine wpAny_newFunctionEnv_cells S.kind hkind fun env he s1 x => ?_
  subst he
  refine ⟨lim.keeps x.toInCall.keep, codeAny_func ?_⟩
  have I0 : Inv (cxOf CX0 P w K mg base N qual (defScope st) f cdv A outer s H (fun _ _ _ => False)) [] (start N [.ref a]) H s1 := inv_start (vs := [.ref a]) (us := [.ref a]) S hr.hd e0 rfl (.cons rfl .nil) x
  have I : Inv (cxOf CX0 P w K mg base N qual (defScope st) f cdv A outer s H (fun _ _ _ => False)).nox [] (start N [.ref a]) H s1 := I0.wish _
  have hs0 : (start N [V.ref a])[0]? = some (some (.ref a)) := by
    cases N with
    | nil => cases hN
    | cons y ys => rfl
  have pself : PE (cxOf CX0 P w K mg base N qual (defScope st) f cdv A outer s H (fun _ _ _ => False)).nox (.Name "self" p2) (tVar 0) := pe_var (i := 0) hN ((S.par "self" (List.Mem.head _)).elim (fun z => .inl z) (fun z => .inr (.inl z)))
  have pf := pe_fld (pos := p3) (f := fld) pself rfl
  show wpAny (model P w) (cxOf CX0 P w K mg base N qual (defScope st) f cdv A outer s H (fun _ _ _ => False)).nox.A (execs (defBody st) (cxOf CX0 P w K mg base N qual (defScope st) f cdv A outer s H (fun _ _ _ => False)).nox.env) _ _ s1
  have hex : execs (defBody st) (cxOf CX0 P w K mg base N qual (defScope st) f cdv A outer s H (fun _ _ _ => False)).nox.env = execs [.Return (some (.Call (.Name "iter" p1) [.Attribute (.Name "self" p2) fld p3] [] p4)) p5] (cxOf CX0 P w K mg base N qual (defScope st) f cdv A outer s H (fun _ _ _ => False)).nox.env := congrArg (fun b => execs b (cxOf CX0 P w K mg base N qual (defScope st) f cdv A outer s H (fun _ _ _ => False)).nox.env) hb
  rw [hex]
  refine wpAny_execs_cons (wpAny_Return_some ?_)
  have hg : Gl (cxOf CX0 P w K mg base N qual (defScope st) f cdv A outer s H (fun _ _ _ => False)).nox "iter" := hk
  refine wpAny_Call_Name_kw (ld_blt I hg hm (by decide +kernel : bootBuiltins "iter" = some (.builtin "iter")) ?_ (by decide) (by decide))
  refine PyProof.Rows.callWith_builtin1 (thnF ((pa_cons pf pa_nil).run p4 [] s1 (start N [.ref a]) H (fun vs H' => vs = [.ref t] ∧ H' = H) I ⟨.ref a, hs0, a, C, dx, fs, .ref t, rfl, ha, c, n, l, rfl, rfl⟩) fun us s2 ⟨vs, H1, I1, r1, e1, e2⟩ => ?_)
  subst e1
  subst e2
  obtain ⟨u, rfl, ru⟩ := vals1 r1
  cases ru
  obtain ⟨its, rv, tp, hz⟩ := I1.tuple ht
  refine call_iterT (show s2.heap.IsTuple t its.toArray from tp) ?_
  have J := I1.kept (t' := s2.toks) (h' := s2.heap.push (titObj t 0)) fun b o e => Heap.get?_push_of_some _ e
  exact ⟨_, rfl, ⟨.ref s2.heap.objs.size, H1, J.os, J.bare, J.base, J.hok, rfl, rfl⟩, I1.sz, Heap.get?_push_size _ rfl⟩
/-- the class has such an __iter__ -/
structure OwnIt (K : PySem.W.Frag) (C f : Addr) : Prop where
  it : PySem.W.findIn K (.ref C) "__iter__" = some (some (.ref f))
  itF : PySem.W.isFn K (.ref f) = true
section
variable {X : Cx} {C f : Addr} {fld : Str} {k : Nat} {A : Around} {pins : List (Addr × Obj)} {σ : L2.St} {H : Hp} {s : Shared}
/-- iter(o) of such an object -/
theorem own_pyIter {E : Value → Shared → Prop} {Q : Value → Shared → Prop} {a dx t : Addr} {fs : List (Str × V)} {xs : List V} (c : OwnIt X.K C f) (F : ItFn X.prog X.w X.K X.mg X.base k f C fld) (sb : Sub X k A) (I : Inv X pins σ H s) (ha : H a = some (.ins C dx fs)) (l : fs.lookup fld = some (.ref t)) (ht : SqT X.K H t xs)
    (h : ∀ q s', Inv X pins σ H s' → s.heap.objs.size ≤ q → H q = none → s'.heap.get? q = some (titObj t 0) → Q (.ref q) s') : wpAny (model X.prog X.w) A (pyIter (.ref a)) Q E s := by
  obtain ⟨mA, J, _⟩ := ins_get I.hok ha
  obtain ⟨od, J, _⟩ := J.look
  obtain ⟨m, hF⟩ := I.fr
  refine PySem.W.owit_iter hF I.ok.mod.kin J c.it c.itF ?_
  have e0 : Env0 X.prog X.w X.K X.mg X.base A X.stack s H := by
    have e := I.env0
    exact ⟨by rw [sb.fr]; exact e.frames, e.mod, e.bs, e.bsz, e.funs, e.frf, e.hok, e.bare⟩
  refine wpAny_call (codeAny_mono (F A X.stack s H a dx t fs xs sb.room e0 ha l ht) fun r s' hq => ?_)
  obtain ⟨q, rfl, ce, hz, hg⟩ := hq
  obtain ⟨v, H', I', rv, eH⟩ := I.after ce
  subst eH
  show PySem.W.OwitIt (model X.prog X.w) A Q E (.ref q) s'
  unfold PySem.W.OwitIt
  have hT : s'.TypeIs (.ref q) "tuple_iterator" := ⟨_, hg, rfl⟩
  exact wpAny_specialOf hT PySem.F.slot_tuple_iterator_next.lookup (h q s' I' hz (I.hok.fresh hz) hg)
/-- for x in o -/
def iOwn (K : PySem.W.Frag) (C : Addr) (fld : Str) (te : TE) : TI := fun σ H R => te σ H fun x H1 => ∃ (a dx t : Addr) (fs : List (Str × V)) (xs : List V), x = .ref a ∧ H1 a = some (.ins C dx fs) ∧ fs.lookup fld = some (.ref t) ∧ SqT K H1 t xs ∧ R (Itt K t) H1
theorem pi_own {tg e : Expr} {te : TE} (he : PE X e te) (c : OwnIt X.K C f) (F : ItFn X.prog X.w X.K X.mg X.base k f C fld) (hr : Room k X.A) : PI X tg e (iOwn X.K C fld te) := by
  refine ⟨fun pins s σ H R I h => ?_⟩
  refine thn (he.run pins s σ H _ I h) fun v s1 ⟨x, H1, I1, r1, a, dx, t, fs, xs, ex, ha, l, ht, q⟩ => ?_
  subst ex
  obtain rfl : v = Value.ref a := r1
  refine own_pyIter c F ⟨hr, rfl⟩ I1 ha l ht fun q0 s2 I2 hz hn hg => ?_
  refine ⟨q0, [q0], _, _, H1, rfl, I2, turn_tuple t _, ⟨_, hg, rfl, rfl⟩, fun b hb => ?_, q⟩
  have e : b = q0 := by simpa using hb
  subst e
  exact I1.fpOk hz hn
end
end Way

/-! list(o), o with an own __iter__ over a tuple and an own __len__ -/
namespace Way
open PySem PySem.Spec PyProof.Rows L2
section
variable {X : Cx} {C f fl : Addr} {fld : Str} {k n : Nat} {pins : List (Addr × Obj)} {σ : L2.St} {H : Hp} {s : Shared}
/-- len(o) where nothing is raised, at any depth -/
theorem len_sub {fd : FuncData} {ps : List Str} {sp : Sp} {E : XK} {A : Around} {E' : Value → Shared → Prop} {Q : Int → Hp → Prop} {a dx : Addr} {fs : List (Str × V)} {R : Value → Shared → Prop} (F : FnOk X.prog X.w X.K X.mg X.base CX0 n fl fd ps sp) (hs : PySem.W.findIn X.K (.ref C) "__len__" = some (some (.ref fl))) (hf : PySem.W.isFn X.K (.ref fl) = true) (hb : Binds X.K fd ps [])
    (sb : Sub X (n + 1) A) (I : Inv X pins σ H s) (ha : H a = some (.ins C dx fs)) (q : sp [.ref a] H (fun v H' => ∃ i, v = .int i ∧ (0 ≤ i ∧ i < 2 ^ 63) ∧ Q i H') E) (h : ∀ i H' s' t, Inv X pins σ H' s' → 0 ≤ i → Q i H' → R (.int i t) s') :
    wpAny (model X.prog X.w) A (call (.builtin "len") [.ref a]) R E' s := by
  obtain ⟨mA, J, _⟩ := ins_get I.hok ha
  obtain ⟨od, J, _⟩ := J.look
  obtain ⟨m, hF⟩ := I.fr
  have Iw : Inv X.nox pins σ H s := I.wish _
  have sb' : Sub X.nox n A.in1 := ⟨sb.in1.room, sb.in1.fr⟩
  refine PySem.W.len_K hF I.ok.mod.kin J hs hf (wpAny_mono (own_call (X := X.nox) (E := E) (vs := [.ref a]) F hb pass0 sb' Iw (.cons rfl .nil) q) (fun r s' hq => ?_) fun _ _ x => x.elim)
  obtain ⟨z, H', I', rz, i, ez, hi, q⟩ := hq
  subst ez
  obtain ⟨t, rfl⟩ := rz
  exact ⟨hi, h i H' _ _ (I'.unwish.tok _) hi.1 q⟩
theorem loop_it {A1 : Around} {Rs : Result → Shared → Prop} {q it t : Addr} {xs : List V} (hh : A1.in1.handled = none) (hq : H q = none) (hz : xs.length ≤ 100000) (ht : SqT X.K H t xs) (hdone : ∀ s, Inv X pins σ (upd H q (.lst xs)) s → Rs (.ok (.ret .none)) s) :
    ∀ (m i : Nat) (s : Shared), m = xs.length - i → i ≤ xs.length → Inv X pins σ (upd H q (.lst (xs.take i))) s → s.heap.IsTupleIter it t i → FpOk X pins (upd H q (.lst (xs.take i))) it → codeAny (model X.prog X.w) A1 (.builtin "list.extend.loop" ⟨[.ref q, .ref it, .none], []⟩) Rs s := by
  intro m
  induction m with
  | zero =>
    intro i s hm hi I st fp
    have e : i = xs.length := by omega
    subst e
    rw [List.take_length] at I fp
    refine codeAny_builtin PySem.F.entry_extend_loop ?_
    rw [Around.under_plainId PySem.F.plain_extend_loop _]
    show wpAny _ A1.in1 (pyNext (.ref it) >>= _) _ _ s
    obtain ⟨its, rv, tp, _⟩ := I.tuple (Evl.ex_t (Evl.Ex.new hq) ht)
    obtain ⟨f0, f1, f2, f3, f4, f5⟩ := fp
    have hl := rv.length
    refine wpAny_bind (wpAny_pyNext_tuple_end hh st (show s.heap.IsTuple t its.toArray from tp) (by simp; omega) fun h' eb => ?_)
    exact wpAny_pure (hdone _ (I.turned (t' := s.toks) (fun b o hb e => eb b o hb e) f0 f1 f3 f4 f5))
  | succ m ih =>
    intro i s hm hi I st fp
    have hi' : i < xs.length := by omega
    refine codeAny_builtin PySem.F.entry_extend_loop ?_
    rw [Around.under_plainId PySem.F.plain_extend_loop _]
    show wpAny _ A1.in1 (pyNext (.ref it) >>= _) _ _ s
    obtain ⟨its, rv, tp, _⟩ := I.tuple (Evl.ex_t (Evl.Ex.new hq) ht)
    obtain ⟨u, hu, ru⟩ := rv.get (List.getElem?_eq_getElem hi')
    obtain ⟨f0, f1, f2, f3, f4, f5⟩ := id fp
    refine wpAny_bind (wpAny_pyNext_tuple_item st (show s.heap.IsTuple t its.toArray from tp) (x := u) (by simpa using hu) fun h' st' sbut => ?_)
    have I1 : Inv X pins σ (upd H q (.lst (xs.take i))) { s with heap := h' } := I.turned (t' := s.toks) (fun b o hb e => (sbut.2 b hb).trans e) f0 f1 f3 f4 f5
    show wpAny _ A1.in1 (updateSeq q (·.push u) >>= _) _ _ _
    obtain ⟨z, its2, k2, r2, hl2, e2⟩ := I1.lstM upd_same
    have hl3 : (xs.take i).length = i := by rw [List.length_take]; omega
    refine wpAny_bind (wpAny_updateSeq e2 rfl (wpAny_pure ⟨plainId_quiet PySem.F.plain_extend_loop _, ?_⟩) (by rw [List.size_toArray]; omega) (by show (its2.toArray.push u).size ≤ sizeLine + 1; rw [Array.size_push, List.size_toArray]; omega))
    have I2 := I1.lset (f := (·.push u)) (its' := its2 ++ [u]) (ys := xs.take i ++ [xs[i]]) (t' := s.toks) upd_same e2 (by simp) (r2.append (.cons ru .nil)) (by rw [List.length_append, List.length_singleton, hl3]; have := Evl.sz_of hz; omega)
    rw [upd_upd] at I2
    have et : xs.take i ++ [xs[i]] = xs.take (i + 1) := by rw [List.take_succ_eq_append_getElem hi']
    rw [et] at I2
    have itq : it ≠ q := fun z => by rw [z, upd_same] at f0; cases f0
    refine ih (i + 1) _ (by omega) (by omega) I2 ?_ ⟨?_, f1, f2, f3, f4, f5⟩
    · refine st'.at fun o e => ?_
      exact (Heap.get?_update_ne _ _ _ _ itq).trans e
    · rw [upd_ne itq] at f0 ⊢
      exact f0
theorem hint_own {fd : FuncData} {ps : List Str} {sp : Sp} {E : XK} {A : Around} {E' : Value → Shared → Prop} {Q : Hp → Prop} {a dx : Addr} {fs : List (Str × V)} {R : Bool → Shared → Prop} (F : FnOk X.prog X.w X.K X.mg X.base CX0 n fl fd ps sp) (hs : PySem.W.findIn X.K (.ref C) "__len__" = some (some (.ref fl))) (hf : PySem.W.isFn X.K (.ref fl) = true) (hb : Binds X.K fd ps [])
    (sb : Sub X (n + 1) A) (I : Inv X pins σ H s) (ha : H a = some (.ins C dx fs)) (q : sp [.ref a] H (fun v H' => ∃ i, v = .int i ∧ (0 ≤ i ∧ i < 2 ^ 63) ∧ i ≤ 100000 ∧ Q H') E) (h : ∀ b H' s', Inv X pins σ H' s' → Q H' → R b s') :
    wpAny (model X.prog X.w) A (Builtin.List.listLengthHint (.ref a)) R E' s := by
  obtain ⟨mA, J, _⟩ := ins_get I.hok ha
  obtain ⟨od, J, _⟩ := J.look
  unfold Builtin.List.listLengthHint
  refine wpAny_bind (wpAny_bind (J.type.here ((PySem.W.looks_findIn I.kIn hs).here ?_)))
  dsimp only
  refine PySem.W.KFB.if_not rfl ?_
  refine PySem.W.KFB.if_so rfl ?_
  refine wpAny_bind (wpAny_rule ?_)
  refine wpAny_bind (wpAny_attempt (len_sub (Q := fun i H' => i ≤ 100000 ∧ Q H') F hs hf hb sb I ha q fun i H' s' t I' h0 ⟨h1, hq⟩ => ?_))
  show wpAny _ _ (asInt? (.int i t) >>= _) _ _ _
  refine wpAny_bind (wpAny_pure ?_)
  dsimp only
  have e : Builtin.List.listTooLong i.toNat = false := by
    unfold Builtin.List.listTooLong
    rw [decide_eq_false_iff_not, sizeLine_eq]
    omega
  rw [e]
  exact wpAny_pure (h _ H' s' I' hq)
theorem extend_it {fd : FuncData} {ps : List Str} {spL : Sp} {EL : XK} {A1 : Around} {Rs : Result → Shared → Prop} {a dx t q : Addr} {fs : List (Str × V)} {ys : List V} {Q : Hp → Prop} (hh : A1.in1.handled = none) (c : OwnIt X.K C f) (F : ItFn X.prog X.w X.K X.mg X.base n f C fld) (FL : FnOk X.prog X.w X.K X.mg X.base CX0 n fl fd ps spL)
    (hs : PySem.W.findIn X.K (.ref C) "__len__" = some (some (.ref fl))) (hf : PySem.W.isFn X.K (.ref fl) = true) (hb : Binds X.K fd ps []) (sb : Sub X (n + 1) A1.in1) (I : Inv X pins σ (upd H q (.lst [])) s) (hq : H q = none) (ha : H a = some (.ins C dx fs)) (l : fs.lookup fld = some (.ref t)) (ht : SqT X.K H t ys) (hy : ys.length ≤ 100000)
    (hlen : spL [.ref a] (upd H q (.lst [])) (fun v H' => ∃ i, v = .int i ∧ (0 ≤ i ∧ i < 2 ^ 63) ∧ i ≤ 100000 ∧ Evl.Ex (upd H q (.lst [])) H' ∧ Q (upd H' q (.lst ys))) EL) (hdone : ∀ H' s, Inv X pins σ H' s → Q H' → Rs (.ok (.ret .none)) s) :
    wpAny (model X.prog X.w) A1.in1 (Builtin.List.listExtendWith (.ref q) (.ref a) .none)
      (fun fin s' => match fin with | .done f => Rs (.ok f) s' | .again c' => c'.quiet = true ∧ codeAny (model X.prog X.w) A1 c' Rs s') (fun e s' => Rs (.error e) s') s := by
  have hne : q ≠ a := fun z => by rw [z, ha] at hq; cases hq
  have ha2 : upd H q (.lst []) a = some (.ins C dx fs) := by rw [upd_ne hne.symm]; exact ha
  have ht2 : SqT X.K (upd H q (.lst [])) t ys := Evl.ex_t (Evl.Ex.new hq) ht
  obtain ⟨mA, J, _⟩ := ins_get I.hok ha2
  obtain ⟨od, J, _⟩ := J.look
  unfold Builtin.List.listExtendWith
  refine wpAny_bind (J.type.here ?_)
  have h1 : Builtin.List.listSameRef (.ref q) (.ref a) = false := by simp [Builtin.List.listSameRef, hne]
  have h2 : (Value.ref C == Value.type "list") = false := rfl
  have h3 : (Value.ref C == Value.type "tuple") = false := rfl
  simp only [h1, h2, h3, Bool.or_false, Bool.false_eq_true, if_false]
  refine wpAny_bind (own_pyIter c F (sb.mono (Nat.le_succ _)) I ha2 l ht2 fun it s1 I1 hz hn hg => ?_)
  have fp := I.fpOk hz hn
  have itq : it ≠ q := fun z => by rw [z, upd_same] at hn; cases hn
  have I1p : Inv X ((it, titObj t 0) :: pins) σ (upd H q (.lst [])) s1 := I1.pins_of fun p hp => by
    rcases List.mem_cons.mp hp with e | e
    · subst e
      exact ⟨hg, hn, fp.2.1, fp.2.2.1, fun v z => by cases z⟩
    · exact I1.pin p (List.mem_append_right _ e)
  refine wpAny_bind (wpAny_holding (hint_own (Q := fun H' => Evl.Ex (upd H q (.lst [])) H' ∧ Q (upd H' q (.lst ys))) FL hs hf hb sb I1p ha2 hlen fun b H' s2 I2 hQ => ?_))
  obtain ⟨ex, hQ⟩ := hQ
  have hq' : H' q = some (.lst []) := ex _ _ upd_same
  have hn' : H' it = none := ClX.pin_un I2
  have key : ∀ s3, Inv X ((it, titObj t 0) :: pins) σ H' s3 → codeAny (model X.prog X.w) A1 (.builtin "list.extend.loop" ⟨[.ref q, .ref it, .none], []⟩) Rs s3 := fun s3 I3 => by
    have hit := ClX.pin_at I3
    have I4 := ClX.unpin I3
    have hb0 : (fun b => if b = q then none else H' b) q = (none : Option HO) := if_pos rfl
    have hu : ∀ o, upd (fun b => if b = q then none else H' b) q o = upd H' q o := fun o => by
      funext b
      by_cases e : b = q
      · rw [e, upd_same, upd_same]
      · rw [upd_ne e, upd_ne e, if_neg e]
    have hx : Evl.Ex H (fun b => if b = q then none else H' b) := fun b o e => by
      have nb : b ≠ q := fun z => by rw [z, hq] at e; cases e
      show (if b = q then none else H' b) = some o
      rw [if_neg nb]
      exact ex _ _ ((upd_ne nb).trans e)
    have h0 : upd (fun b => if b = q then none else H' b) q (.lst (ys.take 0)) = H' := by
      rw [hu, List.take_zero]
      funext b
      by_cases e : b = q
      · rw [e, upd_same, hq']
      · rw [upd_ne e]
    refine loop_it (H := fun b => if b = q then none else H' b) hh hb0 hy (Evl.ex_t hx ht) (fun s4 I5 => ?_) _ 0 s3 rfl (Nat.zero_le _) (by rw [h0]; exact I4) ⟨_, hit, rfl, rfl⟩ (by rw [h0]; exact ⟨hn', fp.2⟩)
    rw [hu] at I5
    exact hdone _ s4 I5 hQ
  obtain ⟨z, its, k, r3, hl3, e3⟩ := I2.lstM hq'
  cases r3
  refine wpAny_ite_split (fun _ => ?_) (fun _ => wpAny_pure ⟨plainId_quiet PySem.F.plain_extend_loop _, key s2 I2⟩)
  refine wpAny_bind (wpAny_rule ?_)
  refine wpAny_bind ?_
  show wpAny _ _ (updateSeq q (·.push .none) >>= fun _ => updateSeq q (·.pop)) _ _ _
  refine wpAny_bind (wpAny_updateSeq e3 rfl ?_)
  have I3 := I2.lset (f := (·.push Value.none)) (its' := [Value.none]) (ys := [.non]) (t' := s2.toks) hq' e3 (by simp) (.cons rfl .nil) (by rw [List.length_singleton, sizeLine_eq]; decide)
  obtain ⟨z4, its4, k4, r4, hl4, e4⟩ := I3.lstM upd_same
  obtain ⟨u4, rfl, ru4⟩ := r4.one
  refine wpAny_updateSeq e4 rfl ?_ (by show 1 ≤ sizeLine; rw [sizeLine_eq]; decide) (by show 0 ≤ sizeLine + 1; exact Nat.zero_le _)
  refine wpAny_pure ⟨plainId_quiet PySem.F.plain_extend_loop _, key _ ?_⟩
  have I5 := I3.lset (f := (·.pop)) (its := [u4]) (its' := []) (ys := []) (t' := s2.toks) upd_same e4 (by rfl) .nil (Nat.zero_le _)
  rw [upd_upd] at I5
  have hH : upd H' q (.lst []) = H' := by
    funext b
    by_cases hb : b = q
    · rw [hb, upd_same, hq']
    · rw [upd_ne hb]
  rw [hH] at I5
  exact I5
/-- list(o) -/
def rListIt (K : PySem.W.Frag) (C : Addr) (fld : Str) (spL : Sp) (EL : XK) : List V → Hp → VK → Prop := fun xs H Q => ∃ (a dx t : Addr) (fs : List (Str × V)) (ys : List V), xs = [.ref a] ∧ H a = some (.ins C dx fs) ∧ fs.lookup fld = some (.ref t) ∧ SqT K H t ys ∧ ys.length ≤ 100000 ∧
  ∀ q, H q = none → spL [.ref a] (upd H q (.lst [])) (fun v H' => ∃ i, v = .int i ∧ (0 ≤ i ∧ i < 2 ^ 63) ∧ i ≤ 100000 ∧ Evl.Ex (upd H q (.lst [])) H' ∧ Q (.ref q) (upd H' q (.lst ys))) EL
theorem call_listIt {fd : FuncData} {ps : List Str} {spL : Sp} {EL : XK} (hcalm : X.calm = true) (c : OwnIt X.K C f) (F : ItFn X.prog X.w X.K X.mg X.base n f C fld) (FL : FnOk X.prog X.w X.K X.mg X.base CX0 n fl fd ps spL) (hs : PySem.W.findIn X.K (.ref C) "__len__" = some (some (.ref fl))) (hf : PySem.W.isFn X.K (.ref fl) = true) (hb : Binds X.K fd ps []) (hr : Room (n + 3) X.A) :
    CallR X (.type "list") (rListIt X.K C fld spL EL) := by
  intro pins s σ H xs us Q I rv h
  obtain ⟨a, dx, t, fs, ys, rfl, ha, l, ht, hy, hq⟩ := h
  obtain ⟨u, rfl, ru⟩ := rv.one
  cases ru
  have sb : Sub X (n + 1) X.A.in1.in1 := (Sub.in1 (Sub.in1 (⟨hr, rfl⟩ : Sub X (n + 3) X.A)))
  refine callType_codes (Q₁ := fun obj s₁ => obj = .ref s.heap.objs.size ∧ s₁ = { s with heap := s.heap.push { cls := .type "list", data := .seq #[] } }) PySem.F.called_list (PySem.F.typeCall_list_1 _) PySem.F.entry_list_init
    (code_list_new _ ⟨rfl, rfl⟩) fun obj s₁ h₁ => ?_
  obtain ⟨rfl, rfl⟩ := h₁
  have hS : (s.heap.push { cls := .type "list", data := .seq #[] }).get? s.heap.objs.size = some { cls := .type "list", data := .seq #[] } := Heap.get?_push_size _ rfl
  refine ⟨⟨_, hS, rfl⟩, PySem.F.args_list_init_2 _ _, ?_⟩
  have fr : H s.heap.objs.size = none := I.hok.fresh (Nat.le_refl _)
  have hlen := hq _ fr
  have I1 : Inv X pins σ (upd H s.heap.objs.size (.lst [])) { s with heap := s.heap.push { cls := .type "list", data := .seq #[] } } := I.lnew (its := []) (t' := s.toks) .nil (Nat.zero_le _)
  show wpAny _ _ (do let old ← Builtin.List.listItems (.ref s.heap.objs.size); Builtin.List.listUpdate (.ref s.heap.objs.size) (fun _ => #[]); letGo old.toList.reverse; Builtin.List.listExtendWith (.ref s.heap.objs.size) (.ref a) .none) _ _ _
  refine wpAny_bind ?_
  unfold Builtin.List.listItems
  refine wpAny_bind (wpAny_seqItems hS rfl (wpAny_pure ?_))
  show wpAny _ _ (updateSeq s.heap.objs.size (fun _ => #[]) >>= fun _ => letGo (#[] : Array Value).toList.reverse >>= fun _ => Builtin.List.listExtendWith (.ref s.heap.objs.size) (.ref a) .none) _ _ _
  refine wpAny_bind (wpAny_updateSeq hS rfl ?_)
  have I2 := I1.lset (f := fun _ => #[]) (its := []) (its' := []) (ys := []) (t' := s.toks) upd_same hS rfl .nil (Nat.zero_le _)
  rw [upd_upd] at I2
  refine wpAny_bind (wpAny_letGo ?_)
  exact extend_it (A1 := X.A.in1) (Q := fun H' => Q (.ref s.heap.objs.size) H') (Rs := wants (fun r s₂ => r = .none ∧ EP X pins σ Q (.ref s.heap.objs.size) s₂) X.xe) (I.ok.hd hcalm) c F FL hs hf hb sb I2 fr ha l ht hy hlen (fun H' s' I' hR => ⟨rfl, .ref s.heap.objs.size, H', I', rfl, hR⟩)
end
end Way

/-! statements that are never reached; static methods; classes made with starred arguments -/
namespace Way
open PySem PySem.Spec PyProof.Rows L2
section
variable {X : Cx}
theorem ps_never {st : Stmt} : PS X st (fun _ _ _ => False) := ⟨fun _ _ _ _ _ _ h => h.elim⟩
theorem pss_never {st : List Stmt} : PSs X st (fun _ _ _ => False) := ⟨fun _ _ _ _ _ _ h => h.elim⟩
theorem pe_never {e : Expr} : PE X e (fun _ _ _ => False) := ⟨fun _ _ _ _ _ _ h => h.elim⟩
end
/-- C.m is a staticmethod: its record at p, its def at g -/
structure SMet (K : PySem.W.Frag) (C : Addr) (mc : Value) (m : Str) (p g : Addr) : Prop where
  at_ : PySem.W.findCls K (.ref C) mc m = some (.get (.builtin "staticmethod.__get__") (.ref p) .none (.ref C))
  rc : ∃ rest, PySem.W.recIn K p "staticmethod" = some (.ref g :: rest)
  kp : PySem.W.keepIn K (.ref g) = true
section
variable {X : Cx} {CX : CXT} {k : Nat} {C p g f : Addr} {mc : Value} {sp : Sp} {E : XK} {o e : Expr} {es : List Expr} {m x : Str} {pos apos np sp_ : Pos} {ta te : TE} {t : TA} {pl : Sem Bool} {fd : FuncData} {ps : List Str}
def tSM (C : Addr) (sp : Sp) (E : XK) (ta : TE) : TE := fun σ H Q => ta σ H fun x H1 => x = .ref C ∧ sp [] H1 Q E
theorem pe_smeth0 (he : PE X o ta) (r : ClX.CRead X.K C mc) (c : SMet X.K C mc m p g) (F : FnOk X.prog X.w X.K X.mg X.base CX k g fd ps sp) (hr : Room k X.A) (hb : Binds X.K fd ps []) (hx : Passes CX X E)
    (ht : eval (.Call (.Attribute o m apos) [] [] pos) X.env = (do
      let ov ← eval o X.env
      standAt apos.atName
      let (f, first) ← holding [ov] (getMethod ov m pl)
      callWith pos f first (backTo pos (starEach [] X.env)) (backToKw pos (keywordEach [] X.env))) := by rfl) :
    PE X (.Call (.Attribute o m apos) [] [] pos) (tSM C sp E ta) := by
  refine ⟨fun pins s σ H Q I h => ?_⟩
  refine PySem.W.methodCall_KW (pl := pl) (thn (he.run pins s σ H _ I h) fun u s1 ⟨x, H1, I1, rx, ex, q⟩ => ?_) ht
  subst ex
  obtain rfl : u = Value.ref C := rx
  obtain ⟨rest, hp⟩ := c.rc
  refine PySem.W.method_cls I1.kIn r.ga (PySem.W.cls_bind I1.kIn r.rd c.at_ ?_)
  refine wpAny_call (PySem.W.sm_get (s := { s1 with toks := s1.toks + 1 }) I1.kIn hp (PySem.W.handed_on rfl ?_))
  have I2 := I1.tok (s1.toks + 1)
  exact PySem.W.callWith_K0 (first := []) I2.kIn c.kp (run_fn (us := []) (vs := []) (ds := []) (dvs := []) F hr hb .nil hx I2 .nil q)
/-- C(), by a positional promise -/
theorem pe_makeR0 (M : Mk X.K C f) (F : FnR X.prog X.w X.K X.mg X.base CX k f sp) (hr : Room (k + 1) X.A) (hg : Gl X x) (hm : X.mg x = some (.ref C)) (hx : Passes CX X E) (hdb : (x == ("__debug__" : Str)) = false := by decide) :
    PE X (.Call (.Name x np) [] [] pos) (StX.tMakeR C sp E tNil) := by
  refine ⟨fun pins s σ H Q I h => ?_⟩
  refine wpAny_Call_Name_kw (ld_glob I hg hm ?_ hdb)
  exact PySem.W.callWith_K0 I.kIn M.kp (StX.run_makeR (us := []) M F hr hx I .nil h)
/-- C( *y ) -/
def tMakeS (K : PySem.W.Frag) (C : Addr) (sp : Sp) (E : XK) (te : TE) : TE := fun σ H Q => te σ H fun y H1 => ∃ a xs, y = V.ref a ∧ (SqT K H1 a xs ∨ SqL K H1 a xs) ∧ ∀ x dx, H1 x = Option.none → H1 dx = Option.none → dx ≠ x →
  sp (V.ref x :: xs) (upd (upd H1 dx (.own x)) x (.ins C dx [])) (fun v H2 => v = .non ∧ Q (.ref x) H2) E
theorem pe_makeS (M : Mk X.K C f) (F : FnR X.prog X.w X.K X.mg X.base CX k f sp) (hr : Room (k + 1) X.A) (hg : Gl X x) (hm : X.mg x = some (.ref C)) (hx : Passes CX X E) (he : PE X e te) (hd : (x == ("__debug__" : Str)) = false := by decide)
    (hst : starEach [.Starred e sp_] X.env = [(true, eval e X.env)] := by rfl) : PE X (.Call (.Name x np) [.Starred e sp_] [] pos) (tMakeS X.K C sp E te) := by
  refine ⟨fun pins s σ H Q I h => ?_⟩
  refine wpAny_Call_Name_kw (ld_glob I hg hm ?_ hd)
  refine PySem.W.callWith_S (h₀ := X.base) I.ok.mod.kin M.kp (thn (he.run pins s σ H _ I h) fun v s1 ⟨y, H1, I1, ry, a, xs, ey, hxs, q⟩ => ?_) hst
  subst ey
  obtain rfl : v = Value.ref a := ry
  exact StX.star_any I1 hxs fun us s2 I2 rv => ⟨I2.kIn, StX.run_makeR M F hr hx I2 rv q⟩
end
/-- the promise of a def with a star parameter, of what stands behind the top -/
theorem starOk {P : Program} {w : World} {K : PySem.W.Frag} {mg : Str → Option Value} {base : Heap} {x qual pv : Str} {st : Stmt} {f : Addr} {fd : FuncData} {N ps : List Str} {k : Nat} {sp : Sp} (F : Fun K x qual st f fd) (S : FnScope N (ps ++ [pv]) (defScope st))
    (hb : ∀ (kV doc pm : Value) (an : Option Addr) (cdv ct : Value) (us rest : List Value), us.length = ps.length → bindArgs (PySem.W.fnOf x qual (defArgs st) (defBody st) (defScope st) .none kV doc pm an cdv ct) ⟨us ++ rest, []⟩ = (newTuple rest >>= fun t => pure (ps.zip us ++ [(pv, t)])))
    (hbody : ∀ (cdv : Value) (A : Around) (outer : List Env) (s : Shared) (H : Hp) (vs : List V) (Q : VK) (E : XK), Room k (A.deeper (envOfC qual (defScope st) s.heap.objs.size f cdv)) → sp vs H Q E →
      ∃ t, PSs (cxOf CX0 P w K mg base N qual (defScope st) f cdv A outer s H E).nox (defBody st) t ∧ t { nx := fun _ H' => Q .non H', rt := Q } (start N vs) H) :
    FnR P w K mg base CX0 (k + 1) f (fun vs H Q E => ∃ ws rest, vs = ws ++ rest ∧ ws.length = ps.length ∧ rest.length ≤ sizeLine ∧ ∀ p, H p = Option.none → sp (ws ++ [V.ref p]) (upd H p (.tup rest)) Q E) := by
  obtain ⟨oc, od, kV, doc, pm, an, cdv, ct, osl, rfl, lk, hcd⟩ := F.ex
  exact StX.fn_star lk hcd S StX.cxUp_none (hb kV doc pm an cdv ct) fun A outer s H vs Q E hr hsp => let ⟨t, h1, h2⟩ := hbody cdv A outer s H vs Q E hr hsp; ⟨t, h1.nox, h2⟩
end Way

/-! rules with K apart, for the blocks of comprehensions; == of data inside a builtin; what comprehensions make -/
namespace Way
open PySem PySem.Spec PyProof.Rows L2 Evl
section
variable {X : Cx} {n : Nat} {D D' : EqvB}
theorem RcB.imp (h : RcB X n D') (i : ∀ x y H b, D x y H b → D' x y H b) : RcB X n D := fun A pins s σ H x y u v b sb I rx ry d => h A pins s σ H x y u v b sb I rx ry (i _ _ _ _ d)
/-- two things of data -/
def DDat (K : PySem.W.Frag) : EqvB := fun x y H b => ∃ (a c : Addr) (d e : PyData), x = .ref a ∧ y = .ref c ∧ (∀ H1, Ext H H1 → Dp K H1 x d) ∧ (∀ H1, Ext H H1 → Dp K H1 y e) ∧ SeqAt.shaped d = true ∧ SeqAt.shaped e = true ∧ b = PyData.eqv d e ∧ (a = c → b = true)
theorem mon_dat {K : PySem.W.Frag} : MonB (DDat K) := fun x y H H' b ex ⟨a, c, d, e, h1, h2, h3, h4, h5⟩ => ⟨a, c, d, e, h1, h2, fun H1 e1 => h3 H1 fun a o q => e1 a o (ex a o q), fun H1 e1 => h4 H1 fun a o q => e1 a o (ex a o q), h5⟩
theorem rcB_dat : RcB X n (DDat X.K) := by
  intro A pins s σ H x y u v b sb I rx ry d
  obtain ⟨a, c, d, e, rfl, rfl, h3, h4, s1, s2, rfl, _⟩ := d
  obtain ⟨as, r1⟩ := Dp.reads I d _ u (h3 H fun _ _ q => q) rx
  obtain ⟨bs, r2⟩ := Dp.reads I e _ v (h4 H fun _ _ q => q) ry
  exact SeqAt.compareEq_shaped r1 r2 s1 s2 sb.room.units ⟨rfl, H, I, fun _ _ q => q⟩
theorem eqB_dat : EqB X n (DDat X.K) := rcB_dat.eqB fun x y H b ⟨a, c, d, e, h1, h2, _, _, _, _, _, h⟩ => ⟨a, c, h1, h2, h⟩
theorem kk_inD {K : PySem.W.Frag} (hr : Room 1 X.A) (h : X.K = K := by rfl) : OpR X (compareOp .In) (rInB (DDat K) false) := h ▸ op_inB mon_dat eqB_dat hr
theorem kk_notInD {K : PySem.W.Frag} (hr : Room 1 X.A) (h : X.K = K := by rfl) : OpR X (compareOp .NotIn) (rInB (DDat K) true) := h ▸ op_notInB mon_dat eqB_dat hr
theorem kk_fld {K : PySem.W.Frag} {e : Expr} {f : Str} {pos : Pos} {ta : TE} (he : PE X e ta) (hb : attributeBase e f X.env (eval e X.env) = eval e X.env) (h : X.K = K := by rfl) : PE X (.Attribute e f pos) (tFld K ta f) := h ▸ pe_fld he hb
theorem kk_cval {K : PySem.W.Frag} {e : Expr} {f : Str} {pos : Pos} {ta : TE} (he : PE X e ta) (hb : attributeBase e f X.env (eval e X.env) = eval e X.env := by rfl) (h : X.K = K := by rfl) : PE X (.Attribute e f pos) (ClX.tCVal K ta f) := h ▸ ClX.pe_cval he hb
theorem kk_piL {K : PySem.W.Frag} {tg l : Expr} {tl : TE} (hl : PE X l tl) (h : X.K = K := by rfl) : PI X tg l (iList K tl) := h ▸ pi_list hl
theorem kk_piT {K : PySem.W.Frag} {tg l : Expr} {tl : TE} (hl : PE X l tl) (h : X.K = K := by rfl) : PI X tg l (iTup K tl) := h ▸ pi_tup hl
theorem kk_truth {K : PySem.W.Frag} {a : Expr} {ta : TE} (ha : PE X a ta) (he : ∀ whole, isTrue a X.env whole = (do let v ← whole; standAt a.pos; holding [v] (truthy v)) := by intro _; rfl) (h : X.K = K := by rfl) :
    PT X a (fun σ H Q => ta σ H fun x H' => ∃ k, TruV K x H' k ∧ Q k H') := h ▸ pt_truth ha he
theorem kk_makeS {K : PySem.W.Frag} {CX : CXT} {k : Nat} {f C : Addr} {sp : Sp} {E : XK} {x : Str} {e : Expr} {te : TE} {np sp_ pos : Pos} (M : Mk X.K C f) (F : FnR X.prog X.w X.K X.mg X.base CX k f sp) (hr : Room (k + 1) X.A) (hg : Gl X x) (hm : X.mg x = some (.ref C)) (hx : Passes CX X E) (he : PE X e te) (hd : (x == ("__debug__" : Str)) = false := by decide)
    (hst : starEach [.Starred e sp_] X.env = [(true, eval e X.env)] := by rfl) (h : X.K = K := by rfl) : PE X (.Call (.Name x np) [.Starred e sp_] [] pos) (tMakeS K C sp E te) := h ▸ pe_makeS M F hr hg hm hx he hd hst
theorem kk_neB {K : PySem.W.Frag} {CX : CXT} {f C : Addr} {fd : FuncData} {ps : List Str} {E : XK} {R : Addr → V → Hp → Bool → Prop} (F : FnOk X.prog X.w X.K X.mg X.base CX n f fd ps (spEqB R)) (hm : PySem.W.mroIn X.K C (.type "object") = some true)
    (hs : PySem.W.findIn X.K (.ref C) "__eq__" = some (some (.ref f))) (hne : PySem.W.findIn X.K (.ref C) "__ne__" = some (some (.builtin "object.__ne__"))) (hf : PySem.W.isFn X.K (.ref f) = true) (hb : Binds X.K fd ps []) (hx : Passes CX X E) (hr : Room (n + 1) X.A) (h : X.K = K := by rfl) :
    OpR X (compareOp .NotEq) (rNeB (DOwn K C R)) := h ▸ op_neB F hm hs hne hf hb hx hr
end
/-- what the written part says of a class whose instances are asked for their type, compared, joined -/
structure InsC (K : PySem.W.Frag) (C : Addr) : Prop where
  ha : PySem.W.findIn K (.ref C) "__class__" = some (some (.builtin "object.__class__"))
  hn : PySem.W.specialIn K (.builtin "object.__class__") "__get__" = some (some (.builtin "getset_descriptor.__get__"))
  tk : PySem.W.takesIn K (.builtin "object.__class__") = some true
  mo : PySem.W.mroIn K C (.type "object") = some true
  ne : PySem.W.findIn K (.ref C) "__ne__" = some (some (.builtin "object.__ne__"))
  sf : PySem.W.selfFirst K C = true
  tt : PySem.W.typeIn K (.ref C) = some (.type "type")
theorem kit_no {K : PySem.W.Frag} {C : Addr} {T : String} {l : List Value} (h : InsC K C) (c : Cls K C) (hl : fastBuiltinMro T = some l) (hn : ∀ a, l.contains (.ref a) = false) : PySem.W.kitOne K (.type T) (.ref C) = some false := by
  have hc : (PySem.W.clsIn K C).isSome = true := by
    obtain ⟨cd, hc, _⟩ := PySem.W.any_some c.hd
    rw [hc]; rfl
  unfold PySem.W.kitOne
  rw [if_neg (by intro z; cases beq_iff_eq.mp z)]
  show (if ((PySem.W.clsIn K C).isSome && PySem.W.typeIn K (.ref C) == some (.type "type")) = true then PySem.W.subIn K (.type T) (.ref C) else none) = _
  rw [hc, h.tt, if_pos (by rfl)]
  show (fastBuiltinMro T).map (·.contains (.ref C)) = some false
  rw [hl, Option.map_some, hn]
theorem notFirst_no {K : PySem.W.Frag} {C : Addr} {T : String} {l : List Value} (hl : fastBuiltinMro T = some l) (hn : ∀ a, l.contains (.ref a) = false) : PySem.W.notFirst K C (.type T) = true := by
  unfold PySem.W.notFirst
  have : PySem.W.subIn K (.type T) (.ref C) = some false := by
    show (fastBuiltinMro T).map (·.contains (.ref C)) = some false
    rw [hl, Option.map_some, hn]
  rw [this]
  simp
theorem InsC.ty {K : PySem.W.Frag} {C : Addr} (h : InsC K C) (c : Cls K C) {H : Hp} {a dx : Addr} {fs : List (Str × V)} (e : H a = some (.ins C dx fs)) : TyX K H (.ref a) (.ref C) := .base (.ins e c h.ha h.hn h.tk h.mo)
theorem notFirst_self {K : PySem.W.Frag} {C : Addr} : PySem.W.notFirst K C (.ref C) = true := by
  unfold PySem.W.notFirst
  simp
theorem kit_self {K : PySem.W.Frag} {C : Addr} : PySem.W.kitOne K (.ref C) (.ref C) = some true := by
  unfold PySem.W.kitOne
  simp
/-! what is evaluated holds P -/
def EvX (te : TE) (σ : L2.St) (H : Hp) (P : V → Hp → Prop) : Prop := ∀ H1, Ex H H1 → ∀ Q : VK, (∀ v H2, Ex H1 H2 → P v H2 → Q v H2) → te σ H1 Q
/-- the same, of a new object -/
def EvN (te : TE) (σ : L2.St) (H : Hp) (P : V → Hp → Prop) : Prop := ∀ H1, Ex H H1 → ∀ Q : VK, (∀ p H2, H1 p = none → Ex H1 H2 → P (.ref p) H2 → Q (.ref p) H2) → te σ H1 Q
section
variable {K : PySem.W.Frag} {σ : L2.St} {H : Hp} {te tb tl : TE} {ta tr : TA} {D : Ends} {tz : TS}
theorem EvN.x {P : V → Hp → Prop} (h : EvN te σ H P) : EvX te σ H P := fun H1 e Q q => h H1 e Q fun p H2 _ e2 z => q _ H2 e2 z
theorem EvN.to {P R : V → Hp → Prop} (h : EvN te σ H P) (r : ∀ v H1, Ex H H1 → P v H1 → R v H1) : EvN te σ H R := fun H1 e Q q => h H1 e Q fun p H2 hn e2 z => q p H2 hn e2 (r _ H2 (e.trans e2) z)
theorem n_asg {P : V → Hp → Prop} {i : Nat} (h : EvN te σ H P) (k : ∀ p H1, H p = none → Ex H H1 → P (.ref p) H1 → tz D (σ.set i (some (.ref p))) H1) : tSeq (tAsg te (gName i)) tz D σ H := h H (Ex.refl H) _ fun p H1 hn e z => k p H1 hn e z
theorem n_ret {P : V → Hp → Prop} (h : EvN te σ H P) (k : ∀ p H1, H p = none → Ex H H1 → P (.ref p) H1 → D.rt (.ref p) H1) : tRet te D σ H := h H (Ex.refl H) _ fun p H1 hn e z => k p H1 hn e z
theorem EvX.of {v : V} {P : V → Hp → Prop} (h : Ev te σ H v) (p : ∀ H1, Ex H H1 → P v H1) : EvX te σ H P := fun H1 e Q q => h H1 e Q fun H2 e2 => q v H2 e2 (p H2 (e.trans e2))
theorem EvX.to {P R : V → Hp → Prop} (h : EvX te σ H P) (r : ∀ v H1, Ex H H1 → P v H1 → R v H1) : EvX te σ H R := fun H1 e Q q => h H1 e Q fun v H2 e2 p => q v H2 e2 (r v H2 (e.trans e2) p)
theorem x_asg {P : V → Hp → Prop} {i : Nat} (h : EvX te σ H P) (k : ∀ v H1, Ex H H1 → P v H1 → tz D (σ.set i (some v)) H1) : tSeq (tAsg te (gName i)) tz D σ H := h H (Ex.refl H) _ fun v H1 e p => k v H1 e p
theorem x_ret {P : V → Hp → Prop} (h : EvX te σ H P) (k : ∀ v H1, Ex H H1 → P v H1 → D.rt v H1) : tRet te D σ H := h H (Ex.refl H) _ fun v H1 e p => k v H1 e p
theorem q_any {i : Nat} (h : te σ H fun v H1 => tz D (σ.set i (some v)) H1) : tSeq (tAsg te (gName i)) tz D σ H := h
/-- facts that outlive the filling of a list -/
def Sits (P : Nat → V → Hp → Prop) : Prop := ∀ i v H H' D acc, H D = some (.lst acc) → Kp D H H' → P i v H → P i v H'
/-- what a comprehension that makes objects leaves -/
def Made (P : Nat → V → Hp → Prop) (n : Nat) (v : V) (H : Hp) : Prop := ∃ p ys, v = .ref p ∧ H p = some (.lst ys) ∧ ys.length = n ∧ ∀ i y, ys[i]? = some y → P i y H
def Cx2 (H1 : Hp) (P : Nat → V → Hp → Prop) (D : Addr) (i : Nat) (H' : Hp) : Prop := H1 D = none ∧ Ex H1 H' ∧ ∃ ys, H' D = some (.lst ys) ∧ ys.length = i ∧ ∀ j y, ys[j]? = some y → P j y H'
theorem cx2_turn {H1 H' : Hp} {P : Nat → V → Hp → Prop} {Dl : Addr} {i : Nat} {σ' : L2.St} (hs : Sits P) (c : Cx2 H1 P Dl i H') (hi : i < 100000) (he : EvX te σ' H1 (P i)) :
    te σ' H' fun y H4 => ∃ acc, H4 Dl = some (.lst acc) ∧ acc.length < sizeLine ∧ Cx2 H1 P Dl (i + 1) (upd H4 Dl (.lst (acc ++ [y]))) := by
  obtain ⟨hn, ex, ys, hD, hl, hp⟩ := c
  refine he H' ex _ fun y H4 e4 py => ⟨ys, e4 _ _ hD, by rw [hl]; exact sz_lt hi, hn, fun b o q => ?_, ys ++ [y], upd_same, by rw [List.length_append, hl]; rfl, fun j z hj => ?_⟩
  · have nb : b ≠ Dl := fun z => by rw [z, hn] at q; cases q
    rw [upd_ne nb]
    exact e4 _ _ (ex _ _ q)
  · have kk : Kp Dl H4 (upd H4 Dl (.lst (ys ++ [y]))) := Kp.set (Kp.refl _ _)
    by_cases hj' : j < ys.length
    · rw [List.getElem?_append_left hj'] at hj
      exact hs _ _ _ _ Dl ys (e4 _ _ hD) kk (hs _ _ _ _ Dl ys hD (Kp.of e4) (hp j z hj))
    · rw [List.getElem?_append_right (by omega)] at hj
      have e0 : j - ys.length = 0 := by
        have := (List.getElem?_eq_some_iff.mp hj).1
        simp at this
        omega
      rw [e0] at hj
      have ej : j = i := by omega
      cases hj
      subst ej
      exact hs _ _ _ _ Dl ys (e4 _ _ hD) kk py
theorem en_lcL {a : Addr} {xs : List V} {j : Nat} {vs : List Nat} {P : Nat → V → Hp → Prop} (hs : Sits P) (h : Ev tl σ H (.ref a)) (hx : SqL K H a xs) (hz : xs.length ≤ 40000) (hw : ∀ x, wipe ((wipe σ vs).set j (some x)) vs = wipe σ vs)
    (he : ∀ (i : Nat) (x : V) H1, Ex H H1 → xs[i]? = some x → EvX te ((wipe σ vs).set j (some x)) H1 (P i)) : EvN (tLc (iList K tl) (gName j) tYes te vs) σ H (Made P xs.length) := fun H0 e Q q => h H0 e _ fun H1 e1 => ⟨a, rfl, ⟨xs, ex_l (e.trans e1) hx⟩, fun Dl hD =>
  lc_list (xs := xs) (Cx2 H1 P Dl) ⟨hD, Ex.new hD, [], upd_same, rfl, fun j y hj => by simp at hj⟩ (fun i H' _ p => ex_l ((e.trans e1).trans p.2.1) hx) (fun i x H' hi p => ⟨hw x, by
    exact cx2_turn hs p (by have := (List.getElem?_eq_some_iff.mp hi).1; omega) (he i x H1 (e.trans e1) hi)⟩)
    (fun H' p => by
      obtain ⟨hn, ex, ys, h1, h2, h3⟩ := p
      exact q Dl H' (fresh_back e1 hn) (e1.trans ex) ⟨Dl, ys, rfl, h1, h2, h3⟩)⟩
end
end Way

/-! lists of things that are told by codes; what comprehensions make of them -/
namespace Way
open PySem PySem.Spec PyProof.Rows L2 Evl
section
variable {α : Type} {R : V → α → Prop}
theorem pr_at : ∀ {xs : List V} {S : List α} {i : Nat} {x : V}, Paired R xs S → xs[i]? = some x → ∃ y, S[i]? = some y ∧ R x y
  | _, _, _, _, .nil, h => by simp at h
  | _, _, 0, _, .cons a _, h => by simp at h; subst h; exact ⟨_, rfl, a⟩
  | _, _, i + 1, _, .cons _ t, h => by simp at h; obtain ⟨y, h1, h2⟩ := pr_at t h; exact ⟨y, by simpa using h1, h2⟩
theorem pr_app {xs us : List V} {ys vs : List α} (p : Paired R xs ys) (t : Paired R us vs) : Paired R (xs ++ us) (ys ++ vs) := by
  induction p with
  | nil => exact t
  | cons a r ih => exact .cons a ih
theorem given_cons {n : Nat} {f : Nat → Bool} {v : Nat → V} : given (n + 1) f v = (if f 0 = true then [v 0] else []) ++ given n (fun i => f (i + 1)) (fun i => v (i + 1)) := by
  unfold given
  rw [List.range_succ_eq_map, List.filter_cons]
  cases h : f 0 with
  | true =>
    simp only [if_true, List.map_cons, List.filter_map, List.map_map, List.singleton_append]
    rfl
  | false =>
    simp only [Bool.false_eq_true, if_false, List.filter_map, List.map_map, List.nil_append]
    rfl
theorem given_flt {g : α → Bool} : ∀ {xs : List V} {S : List α} {f : Nat → Bool} {v : Nat → V}, Paired R xs S → (∀ i x y, xs[i]? = some x → S[i]? = some y → f i = g y ∧ v i = x) → Paired R (given xs.length f v) (S.filter g)
  | _, _, f, v, .nil, h => by
    unfold given
    exact .nil
  | x :: _, y :: _, f, v, .cons a t, h => by
    rw [List.length_cons, given_cons, List.filter_cons]
    obtain ⟨h1, h2⟩ := h 0 x y rfl rfl
    have ih := given_flt (g := g) (f := fun i => f (i + 1)) (v := fun i => v (i + 1)) t fun i x' y' e1 e2 => h (i + 1) x' y' (by simpa using e1) (by simpa using e2)
    rw [h1, h2]
    cases g y with
    | true => exact .cons a ih
    | false => exact ih
end
/-- a list of things told by codes -/
def LAt {α : Type} (P : α → V → Hp → Prop) (S : List α) (v : V) (H : Hp) : Prop := ∃ p xs, v = .ref p ∧ H p = some (.lst xs) ∧ Paired (fun x i => P i x H) xs S
def UAt {α : Type} (P : α → V → Hp → Prop) (S : List α) (v : V) (H : Hp) : Prop := ∃ p xs, v = .ref p ∧ H p = some (.tup xs) ∧ Paired (fun x i => P i x H) xs S
section
variable {K : PySem.W.Frag} {σ : L2.St} {H : Hp} {te tb tl : TE} {t : TT} {ta tr : TA} {D : Ends} {tz : TS} {α : Type} {P : α → V → Hp → Prop} {S : List α}
def Mon (P : α → V → Hp → Prop) : Prop := ∀ i v H H', Ex H H' → P i v H → P i v H'
theorem LAt.mono {v : V} {H' : Hp} (m : Mon P) (e : Ex H H') (h : LAt P S v H) : LAt P S v H' := let ⟨p, xs, h1, h2, h3⟩ := h; ⟨p, xs, h1, e _ _ h2, Paired.mapP h3 fun _ _ q => m _ _ _ _ e q⟩
theorem UAt.mono {v : V} {H' : Hp} (m : Mon P) (e : Ex H H') (h : UAt P S v H) : UAt P S v H' := let ⟨p, xs, h1, h2, h3⟩ := h; ⟨p, xs, h1, e _ _ h2, Paired.mapP h3 fun _ _ q => m _ _ _ _ e q⟩
/-- [x for x in l if t] -/
theorem en_fltL {u : V} {j : Nat} {vs : List Nat} {g : α → Bool} (m : Mon P) (h : Ev tl σ H u) (hp : LAt P S u H) (hz : S.length ≤ 40000) (hj : j < σ.length) (hw : ∀ x, wipe ((wipe σ vs).set j (some x)) vs = wipe σ vs)
    (ht : ∀ (x : V) (i : α) H1, Ex H H1 → i ∈ S → P i x H1 → EvT t ((wipe σ vs).set j (some x)) H1 (g i)) : EvN (tLc (iList K tl) (gName j) t (tVar j) vs) σ H (LAt P (S.filter g)) := by
  obtain ⟨p, xs, rfl, hl, hx⟩ := hp
  have hlen : xs.length = S.length := Paired.length hx
  intro H1 e Q q
  have hat : ∀ i x, xs[i]? = some x → ∃ y, S[i]? = some y ∧ P y x H := fun i x hi => pr_at hx hi
  refine el_lcL (K := K) (fun i => (S[i]?.map g).getD false) (fun i => xs.getD i .non) h (sq_of hl) (by omega) hw (fun i x H2 e2 hi => ?_) (fun i x H2 e2 hi _ => ?_) H1 e Q fun pn H2 hn e2 h2 => ?_
  · obtain ⟨y, hy, py⟩ := hat i x hi
    rw [hy]
    exact ht x y H2 e2 (List.mem_of_getElem? hy) (m _ _ _ _ e2 py)
  · have ed : xs.getD i .non = x := by rw [List.getD_eq_getElem?_getD, hi]; rfl
    rw [ed]
    refine ev_var ?_
    rw [List.getElem?_set_self (by rw [wipe_length]; exact hj)]
  · refine q pn _ hn e2 ⟨pn, _, rfl, h2, ?_⟩
    refine Paired.mapP (given_flt (g := g) hx fun i x y e1 e2 => ⟨by rw [e2]; rfl, by rw [List.getD_eq_getElem?_getD, e1]; rfl⟩) fun _ _ z => m _ _ _ _ (e.trans e2) z
/-- [x for x in l] of booleans and the like: [e for x in l], e told by the code -/
theorem el_mapL {u : V} {j : Nat} {vs : List Nat} {w : α → V} (m : Mon P) (h : Ev tl σ H u) (hp : LAt P S u H) (hz : S.length ≤ 40000) (hw : ∀ x, wipe ((wipe σ vs).set j (some x)) vs = wipe σ vs)
    (he : ∀ (x : V) (i : α) H1, Ex H H1 → i ∈ S → P i x H1 → Ev te ((wipe σ vs).set j (some x)) H1 (w i)) : EvL (tLc (iList K tl) (gName j) tYes te vs) σ H (S.map w) := by
  obtain ⟨p, xs, rfl, hl, hx⟩ := hp
  have hlen : xs.length = S.length := Paired.length hx
  have hat : ∀ i x, xs[i]? = some x → ∃ y, S[i]? = some y ∧ P y x H := fun i x hi => pr_at hx hi
  have eq : given xs.length (fun _ => true) (fun i => (S[i]?.map w).getD .non) = S.map w := by
    unfold given
    rw [List.filter_eq_self.mpr fun _ _ => rfl, hlen]
    refine List.ext_getElem? fun i => ?_
    rw [List.getElem?_map, List.getElem?_map]
    by_cases hi : i < S.length
    · rw [List.getElem?_range hi, List.getElem?_eq_getElem hi]
      show some ((Option.map w S[i]?).getD V.non) = some (w S[i])
      rw [List.getElem?_eq_getElem hi]
      rfl
    · rw [List.getElem?_eq_none (by simpa using Nat.le_of_not_lt hi), List.getElem?_eq_none (Nat.le_of_not_lt hi)]; rfl
  rw [← eq]
  refine el_lcL (K := K) (fun _ => true) (fun i => (S[i]?.map w).getD .non) h (sq_of hl) (by omega) hw (fun i x H2 e2 hi => ?_) (fun i x H2 e2 hi _ => ?_)
  · exact fun H3 e3 Q q => q H3 (Ex.refl H3)
  · obtain ⟨y, hy, py⟩ := hat i x hi
    rw [hy]
    exact he x y H2 e2 (List.mem_of_getElem? hy) (m _ _ _ _ e2 py)
/-- the same over a tuple -/
theorem el_mapT {p : Addr} {xs : List V} {j : Nat} {vs : List Nat} {w : α → V} (m : Mon P) (h : Ev tl σ H (.ref p)) (hs : SqT K H p xs) (hx : Paired (fun x i => P i x H) xs S) (hz : S.length ≤ 40000) (hw : ∀ x, wipe ((wipe σ vs).set j (some x)) vs = wipe σ vs)
    (he : ∀ (x : V) (i : α) H1, Ex H H1 → i ∈ S → P i x H1 → Ev te ((wipe σ vs).set j (some x)) H1 (w i)) : EvL (tLc (iTup K tl) (gName j) tYes te vs) σ H (S.map w) := by
  have hlen : xs.length = S.length := Paired.length hx
  have hat : ∀ i x, xs[i]? = some x → ∃ y, S[i]? = some y ∧ P y x H := fun i x hi => pr_at hx hi
  have eq : given xs.length (fun _ => true) (fun i => (S[i]?.map w).getD .non) = S.map w := by
    unfold given
    rw [List.filter_eq_self.mpr fun _ _ => rfl, hlen]
    refine List.ext_getElem? fun i => ?_
    rw [List.getElem?_map, List.getElem?_map]
    by_cases hi : i < S.length
    · rw [List.getElem?_range hi, List.getElem?_eq_getElem hi]
      show some ((Option.map w S[i]?).getD V.non) = some (w S[i])
      rw [List.getElem?_eq_getElem hi]
      rfl
    · rw [List.getElem?_eq_none (by simpa using Nat.le_of_not_lt hi), List.getElem?_eq_none (Nat.le_of_not_lt hi)]; rfl
  rw [← eq]
  refine el_lcT (K := K) (fun _ => true) (fun i => (S[i]?.map w).getD .non) h hs (by omega) hw (fun i x H2 e2 hi => ?_) (fun i x H2 e2 hi _ => ?_)
  · exact fun H3 e3 Q q => q H3 (Ex.refl H3)
  · obtain ⟨y, hy, py⟩ := hat i x hi
    rw [hy]
    exact he x y H2 e2 (List.mem_of_getElem? hy) (m _ _ _ _ e2 py)
/-- [w for w in TUPLE if t], values that are no objects -/
theorem el_fltT {p : Addr} {xs : List V} {j : Nat} {vs : List Nat} {g : V → Bool} (h : Ev tl σ H (.ref p)) (hs : SqT K H p xs) (hz : xs.length ≤ 40000) (hj : j < σ.length) (hw : ∀ x, wipe ((wipe σ vs).set j (some x)) vs = wipe σ vs)
    (ht : ∀ (x : V) H1, Ex H H1 → x ∈ xs → EvT t ((wipe σ vs).set j (some x)) H1 (g x)) : EvL (tLc (iTup K tl) (gName j) t (tVar j) vs) σ H (xs.filter g) := by
  have eq : given xs.length (fun i => (xs[i]?.map g).getD false) (fun i => xs.getD i .non) = xs.filter g := by
    have := given_flt (R := fun x y => x = y) (g := g) (f := fun i => (xs[i]?.map g).getD false) (v := fun i => xs.getD i .non) (xs := xs) (S := xs) ?_ fun i x y e1 e2 => ⟨by rw [e2]; rfl, by rw [List.getD_eq_getElem?_getD, e1]; rfl⟩
    · clear ht hs h hz
      revert this
      generalize given xs.length (fun i => (xs[i]?.map g).getD false) (fun i => xs.getD i .non) = as
      generalize xs.filter g = bs
      intro this
      induction this with
      | nil => rfl
      | cons a _ ih => rw [a, ih]
    · clear ht hs h hz
      induction xs with
      | nil => exact .nil
      | cons a r ih => exact .cons rfl ih
  rw [← eq]
  refine el_lcT (K := K) (fun i => (xs[i]?.map g).getD false) (fun i => xs.getD i .non) h hs hz hw (fun i x H2 e2 hi => ?_) (fun i x H2 e2 hi _ => ?_)
  · rw [hi]
    exact ht x H2 e2 (List.mem_of_getElem? hi)
  · have ed : xs.getD i .non = x := by rw [List.getD_eq_getElem?_getD, hi]; rfl
    rw [ed]
    refine ev_var ?_
    rw [List.getElem?_set_self (by rw [wipe_length]; exact hj)]
/-- [e for x in TUPLE] -/
theorem el_mapV {p : Addr} {xs : List V} {j : Nat} {vs : List Nat} {w : V → V} (h : Ev tl σ H (.ref p)) (hs : SqT K H p xs) (hz : xs.length ≤ 40000) (hw : ∀ x, wipe ((wipe σ vs).set j (some x)) vs = wipe σ vs)
    (he : ∀ (x : V) H1, Ex H H1 → x ∈ xs → Ev te ((wipe σ vs).set j (some x)) H1 (w x)) : EvL (tLc (iTup K tl) (gName j) tYes te vs) σ H (xs.map w) :=
  el_mapT (P := fun (i : V) v (_ : Hp) => v = i) (fun _ _ _ _ _ z => z) h hs (by
    clear he hs h hz
    induction xs with
    | nil => exact .nil
    | cons a r ih => exact .cons rfl ih) hz hw fun x i H1 e hi z => by subst z; exact he x H1 e hi
theorem ev_all {bs : List Bool} (h : EvL te σ H (bs.map V.bl)) : Ev (tCB (rAll K) (tCons te tNil)) σ H (.bl (bs.all id)) := fun H1 e Q q => h H1 e _ fun p H2 hn e2 h2 => ⟨p, bs, rfl, SqL.of h2, q H2 e2⟩
theorem ev_any {bs : List Bool} (h : EvL te σ H (bs.map V.bl)) : Ev (tCB (rAny K) (tCons te tNil)) σ H (.bl (bs.any id)) := fun H1 e Q q => h H1 e _ fun p H2 hn e2 h2 => ⟨p, bs, rfl, SqL.of h2, q H2 e2⟩
theorem ev_allV {p : Addr} {xs : List V} {j : Nat} {vs : List Nat} {w : V → Bool} (h : Ev tl σ H (.ref p)) (hs : SqT K H p xs) (hz : xs.length ≤ 40000) (hw : ∀ x, wipe ((wipe σ vs).set j (some x)) vs = wipe σ vs)
    (he : ∀ (x : V) H1, Ex H H1 → x ∈ xs → Ev te ((wipe σ vs).set j (some x)) H1 (.bl (w x))) : Ev (tCB (rAll K) (tCons (tLc (iTup K tl) (gName j) tYes te vs) tNil)) σ H (.bl ((xs.map w).all id)) :=
  ev_all (by rw [List.map_map]; exact el_mapV (w := fun x => .bl (w x)) h hs hz hw he)
theorem ev_allP {p : Addr} {xs : List V} {j : Nat} {vs : List Nat} {w : α → Bool} (m : Mon P) (h : Ev tl σ H (.ref p)) (hs : SqT K H p xs) (hx : Paired (fun x i => P i x H) xs S) (hz : S.length ≤ 40000) (hw : ∀ x, wipe ((wipe σ vs).set j (some x)) vs = wipe σ vs)
    (he : ∀ (x : V) (i : α) H1, Ex H H1 → i ∈ S → P i x H1 → Ev te ((wipe σ vs).set j (some x)) H1 (.bl (w i))) : Ev (tCB (rAll K) (tCons (tLc (iTup K tl) (gName j) tYes te vs) tNil)) σ H (.bl ((S.map w).all id)) :=
  ev_all (by rw [List.map_map]; exact el_mapT (w := fun x => .bl (w x)) m h hs hx hz hw he)
theorem ev_anyP {p : Addr} {xs : List V} {j : Nat} {vs : List Nat} {w : α → Bool} (m : Mon P) (h : Ev tl σ H (.ref p)) (hs : SqT K H p xs) (hx : Paired (fun x i => P i x H) xs S) (hz : S.length ≤ 40000) (hw : ∀ x, wipe ((wipe σ vs).set j (some x)) vs = wipe σ vs)
    (he : ∀ (x : V) (i : α) H1, Ex H H1 → i ∈ S → P i x H1 → Ev te ((wipe σ vs).set j (some x)) H1 (.bl (w i))) : Ev (tCB (rAny K) (tCons (tLc (iTup K tl) (gName j) tYes te vs) tNil)) σ H (.bl ((S.map w).any id)) :=
  ev_any (by rw [List.map_map]; exact el_mapT (w := fun x => .bl (w x)) m h hs hx hz hw he)
/-- displays of things told by codes -/
def EvP (ta : TA) (σ : L2.St) (H : Hp) (P : α → V → Hp → Prop) (S : List α) : Prop := ∀ H1, Ex H H1 → ∀ Q : List V → Hp → Prop, (∀ xs H2, Ex H1 H2 → Paired (fun x i => P i x H2) xs S → Q xs H2) → ta σ H1 Q
theorem evp_nil : EvP tNil σ H P [] := fun H1 _ _ q => q [] H1 (Ex.refl H1) .nil
theorem evp_cons {i : α} (m : Mon P) (h : EvX te σ H (P i)) (r : EvP tr σ H P S) : EvP (tCons te tr) σ H P (i :: S) := fun H1 e Q q =>
  h H1 e _ fun v H2 e2 p => r H2 (e.trans e2) _ fun xs H3 e3 ps => q _ H3 (e2.trans e3) (.cons (m _ _ _ _ e3 p) ps)
theorem en_lstP (m : Mon P) (h : EvP ta σ H P S) (hz : S.length ≤ 100000) : EvN (tLst ta) σ H (LAt P S) := fun H1 e Q q =>
  h H1 e _ fun xs H2 e2 ps => ⟨sz_of (by have := Paired.length ps; omega), fun p hp => q p _ (fresh_back e2 hp) (e2.trans (Ex.new hp)) ⟨p, xs, rfl, upd_same, Paired.mapP ps fun _ _ z => m _ _ _ _ (Ex.new hp) z⟩⟩
/-- facts that outlive the filling of a list -/
def Stay (P : α → V → Hp → Prop) : Prop := ∀ i v H H' D acc, H D = some (.lst acc) → Kp D H H' → P i v H → P i v H'
theorem pr_of {β : Type} {R : V → β → Prop} : ∀ {ys : List V} {S : List β}, ys.length = S.length → (∀ (i : Nat) y s, ys[i]? = some y → S[i]? = some s → R y s) → Paired R ys S
  | [], [], _, _ => .nil
  | y :: ys, s :: S, hl, h => .cons (h 0 y s rfl rfl) (pr_of (by simpa using hl) fun i a b e1 e2 => h (i + 1) a b (by simpa using e1) (by simpa using e2))
/-- [e for x in l], e makes objects -/
theorem en_mapL {β : Type} {R : β → V → Hp → Prop} {c : α → β} {u : V} {j : Nat} {vs : List Nat} (m : Mon P) (hR : Stay R) (h : Ev tl σ H u) (hp : LAt P S u H) (hz : S.length ≤ 40000) (hw : ∀ x, wipe ((wipe σ vs).set j (some x)) vs = wipe σ vs)
    (he : ∀ (x : V) (i : α) H1, Ex H H1 → i ∈ S → P i x H1 → EvX te ((wipe σ vs).set j (some x)) H1 (R (c i))) : EvN (tLc (iList K tl) (gName j) tYes te vs) σ H (LAt R (S.map c)) := by
  obtain ⟨p, xs, rfl, hl, hx⟩ := hp
  have hlen : xs.length = S.length := Paired.length hx
  refine (en_lcL (K := K) (P := fun k v H' => ∀ s, S[k]? = some s → R (c s) v H') (fun i v H1 H2 D acc h1 h2 h3 s hs => hR _ _ _ _ D acc h1 h2 (h3 s hs)) h (sq_of hl) (by omega) hw fun i x H1 e hi => ?_).to fun v H1 e hm => ?_
  · obtain ⟨y, hy, py⟩ := pr_at hx hi
    refine (he x y H1 e (List.mem_of_getElem? hy) (m _ _ _ _ e py)).to fun v H2 e2 r s hs => ?_
    rw [hy] at hs
    cases hs
    exact r
  · obtain ⟨q, ys, h1, h2, h3, h4⟩ := hm
    refine ⟨q, ys, h1, h2, pr_of (by rw [List.length_map, h3, hlen]) fun i y s e1 e2 => ?_⟩
    rw [List.getElem?_map] at e2
    cases e3 : S[i]? with
    | none => rw [e3] at e2; cases e2
    | some z => rw [e3] at e2; cases e2; exact h4 i y e1 z e3
/-- a for over a list that is made for it -/
theorem x_forL {g : TG} {tu : TS} (h : EvN tl σ H (LAt P S)) (Iv : Addr → List V → Nat → L2.St → Hp → Prop) (h0 : ∀ l xs H1, H l = none → Ex H H1 → H1 l = some (.lst xs) → Paired (fun x i => P i x H1) xs S → Iv l xs 0 σ H1) (hl : ∀ l xs i σ' H', Iv l xs i σ' H' → H' l = some (.lst xs))
    (hs : ∀ l xs i x σ' H', xs[i]? = some x → Iv l xs i σ' H' → g x σ' H' fun σ2 H2 => tu { D with nx := Iv l xs (i + 1), ct := Iv l xs (i + 1), bk := tz D } σ2 H2) (hd : ∀ l xs σ' H', Iv l xs xs.length σ' H' → tz D σ' H') : tSeq (tFor (iList K tl) g tu) tz D σ H :=
  h H (Ex.refl H) _ fun p H1 hn e z => by
    obtain ⟨l, xs, el, h1, hp⟩ := z
    cases el
    exact ⟨p, rfl, ⟨xs, sq_of h1⟩, for_list (D := { D with nx := tz D }) (Iv p xs) (h0 p xs H1 hn e h1 hp) (fun i σ' H' _ q => sq_of (hl p xs i σ' H' q)) (fun i x σ' H' hx q => hs p xs i x σ' H' hx q) (fun σ' H' q => hd p xs σ' H' q)⟩
theorem yes_of {A B : Hp → Prop} (h : A H) : tYes σ H (fun b H3 => if b = true then A H3 else B H3) := by
  show (if true = true then A H else B H)
  rw [if_pos rfl]
  exact h
/-- [e for x in TUPLE for y in TUPLE], e makes objects -/
theorem en_lc2T {β : Type} {R : β → V → Hp → Prop} {c : α → α → β} {S' : List α} {tl' : TE} {p p' : Addr} {xs xs' : List V} {j j' : Nat} {vs vs1 : List Nat} (m : Mon P) (hR : Stay R) (h : Ev tl σ H (.ref p)) (hs : SqT K H p xs) (hx : Paired (fun x i => P i x H) xs S) (hs' : SqT K H p' xs') (hx' : Paired (fun x i => P i x H) xs' S')
    (hz : S.length ≤ 200) (hz' : S'.length ≤ 200) (hw : ∀ x, wipe ((wipe σ vs).set j (some x)) vs = wipe σ vs) (hw1 : ∀ x y, wipe ((wipe ((wipe σ vs).set j (some x)) vs1).set j' (some y)) vs1 = wipe ((wipe σ vs).set j (some x)) vs1) (h' : ∀ x H1, Ex H H1 → Ev tl' ((wipe σ vs).set j (some x)) H1 (.ref p'))
    (he : ∀ x y a b H1, Ex H H1 → P a x H1 → P b y H1 → EvX te ((wipe ((wipe σ vs).set j (some x)) vs1).set j' (some y)) H1 (R (c a b))) :
    EvN (tLc2 (iTup K tl) (gName j) tYes (iTup K tl') (gName j') tYes te vs vs1) σ H (LAt R (S.flatMap fun a => S'.map (c a))) := fun H0 e0 Q q => h H0 e0 _ fun H1 e1 => by
  have e01 := e0.trans e1
  have hlen : xs.length = S.length := Paired.length hx
  have hlen' : xs'.length = S'.length := Paired.length hx'
  have bound : ∀ k, ((S.take k).flatMap fun a => S'.map (c a)).length ≤ 40000 := fun k => by
    have : ∀ T : List α, (T.flatMap fun a => S'.map (c a)).length = T.length * S'.length := fun T => by
      induction T with
      | nil => simp
      | cons a r ih => rw [List.flatMap_cons, List.length_append, ih, List.length_map, List.length_cons, Nat.add_mul]; omega
    rw [this]
    have h1 : (S.take k).length ≤ 200 := Nat.le_trans (by rw [List.length_take]; omega) hz
    calc (S.take k).length * S'.length ≤ 200 * 200 := Nat.mul_le_mul h1 hz'
      _ ≤ 40000 := by decide
  refine ⟨p, rfl, ⟨xs, ex_t e01 hs⟩, fun D hD => ?_⟩
  let J : Nat → List β → Hp → Prop := fun _ T H' => Ex H1 H' ∧ ∃ ys, H' D = some (.lst ys) ∧ Paired (fun y b => R b y H') ys T
  refine ⟨fun i mm H' => mm = xs.length - i ∧ i ≤ xs.length ∧ J i ((S.take i).flatMap fun a => S'.map (c a)) H', ⟨xs.length, by simp, Nat.zero_le _, Ex.new hD, [], upd_same, .nil⟩, ?_⟩
  rintro i mm H' ⟨rfl, hi, ex, ys, hys, pys⟩
  have ex' := e01.trans ex
  by_cases hlt : i < xs.length
  · obtain ⟨a, ha, pa⟩ := pr_at hx (List.getElem?_eq_getElem hlt)
    have hia : i < S.length := (List.getElem?_eq_some_iff.mp ha).1
    have tk : S.take (i + 1) = S.take i ++ [a] := by rw [List.take_succ_eq_append_getElem hia, (List.getElem?_eq_some_iff.mp ha).2]
    refine .inr ⟨⟨xs, _, ex_t ex' hs, List.getElem?_eq_getElem hlt⟩, J (i + 1) ((S.take (i + 1)).flatMap fun a => S'.map (c a)), fun H2 z => ⟨xs.length - (i + 1), by omega, rfl, hlt, z⟩, fun x H2 y2 => ?_⟩
    obtain ⟨rfl, hxa⟩ := y2
    have ex1 : x = xs[i] := by
      have := hxa xs (ex_t ex' hs)
      rw [List.getElem?_eq_getElem hlt] at this
      exact (Option.some.inj this).symm
    subst ex1
    refine ⟨hw _, ?_⟩
    refine yes_of ?_
    refine h' _ H2 ex' H2 (Ex.refl H2) _ fun H3 e3 => ⟨p', rfl, ⟨xs', ex_t (ex'.trans e3) hs'⟩, ?_⟩
    refine ⟨fun k mm H4 => mm = xs'.length - k ∧ k ≤ xs'.length ∧ J k (((S.take i).flatMap fun a => S'.map (c a)) ++ (S'.take k).map (c a)) H4, ⟨xs'.length, by simp, Nat.zero_le _, ex.trans e3, ys, e3 _ _ hys, ?_⟩, ?_⟩
    · rw [List.take_zero, List.map_nil, List.append_nil]
      exact Paired.mapP pys fun _ _ z => hR _ _ _ _ D ys hys (Kp.of e3) z
    · rintro k mm H4 ⟨rfl, hk, exk, zs, hzs, pzs⟩
      have exk' := e01.trans exk
      by_cases hlt' : k < xs'.length
      · obtain ⟨b, hb, pb⟩ := pr_at hx' (List.getElem?_eq_getElem hlt')
        have hkb : k < S'.length := (List.getElem?_eq_some_iff.mp hb).1
        have tk' : S'.take (k + 1) = S'.take k ++ [b] := by rw [List.take_succ_eq_append_getElem hkb, (List.getElem?_eq_some_iff.mp hb).2]
        refine .inr ⟨⟨xs', _, ex_t exk' hs', List.getElem?_eq_getElem hlt'⟩, J (k + 1) (((S.take i).flatMap fun a => S'.map (c a)) ++ (S'.take (k + 1)).map (c a)), fun H5 z => ⟨xs'.length - (k + 1), by omega, rfl, hlt', z⟩, fun y H5 y5 => ?_⟩
        obtain ⟨rfl, hyb⟩ := y5
        have ey : y = xs'[k] := by
          have := hyb xs' (ex_t exk' hs')
          rw [List.getElem?_eq_getElem hlt'] at this
          exact (Option.some.inj this).symm
        subst ey
        refine ⟨hw1 _ _, ?_⟩
        refine yes_of ?_
        refine he _ _ a b H5 exk' (m _ _ _ _ exk' pa) (m _ _ _ _ exk' pb) H5 (Ex.refl H5) _ fun v H6 e6 r => ⟨zs, e6 _ _ hzs, ?_, (fun b' o z => ?_), zs ++ [v], upd_same, ?_⟩
        · have h1 := Paired.length pzs
          have h2 := bound (i + 1)
          rw [tk, List.flatMap_append, List.length_append] at h2
          rw [List.length_append, List.length_map, List.length_take] at h1
          simp only [List.flatMap_cons, List.flatMap_nil, List.append_nil, List.length_map] at h2
          exact sz_lt (by omega)
        · have nb : b' ≠ D := ne_of_none z hD
          exact (upd_ne nb).trans (e6 _ _ (exk _ _ z))
        · have kk : Kp D H6 (upd H6 D (.lst (zs ++ [v]))) := Kp.set (Kp.refl _ _)
          rw [tk', List.map_append, ← List.append_assoc]
          exact pr_app (Paired.mapP pzs fun _ _ z => hR _ _ _ _ D zs (e6 _ _ hzs) kk (hR _ _ _ _ D zs hzs (Kp.of e6) z)) (.cons (hR _ _ _ _ D zs (e6 _ _ hzs) kk r) .nil)
      · have ek : k = xs'.length := by omega
        subst ek
        refine .inl ⟨⟨xs', ex_t exk' hs', Nat.le_refl _⟩, exk, zs, hzs, ?_⟩
        rw [tk, List.flatMap_append]
        simp only [List.flatMap_cons, List.flatMap_nil, List.append_nil]
        rw [hlen', List.take_length] at pzs
        exact pzs
  · have ei : i = xs.length := by omega
    subst ei
    refine .inl ⟨⟨xs, ex_t ex' hs, Nat.le_refl _⟩, q D H' (fresh_back e1 hD) (e1.trans ex) ⟨D, ys, rfl, hys, ?_⟩⟩
    rw [hlen, List.take_length] at pys
    exact pys
end
end Way

namespace K82
open PySem L2 Way Evl
def top (i : Nat) : Stmt := PySem.Challenge.pw_waypairs_k82_profiles_of_sets.main.body.getD i (.Pass ⟨0, 0, 0, 0⟩)
abbrev s_Manners_init : Stmt := inClass (top 4) 1
abbrev N_Manners_init : List Str := ["self", "names", "at", "name", "word"]
abbrev P_Manners_init : List Str := ["self", "names"]
theorem sc_Manners_init : FnScope N_Manners_init P_Manners_init (defScope s_Manners_init) := ⟨rfl, rfl, rfl, by decide +kernel, rfl, by decide +kernel, by decide +kernel⟩
abbrev s_Manners_every : Stmt := inClass (top 4) 2
abbrev N_Manners_every : List Str := ["rows", "word", "row"]
abbrev P_Manners_every : List Str := []
theorem sc_Manners_every : FnScope N_Manners_every P_Manners_every (defScope s_Manners_every) := ⟨rfl, rfl, rfl, by decide +kernel, rfl, by decide +kernel, by decide +kernel⟩
abbrev s_Manners_eq : Stmt := inClass (top 4) 5
abbrev N_Manners_eq : List Str := ["self", "other"]
abbrev P_Manners_eq : List Str := ["self", "other"]
theorem sc_Manners_eq : FnScope N_Manners_eq P_Manners_eq (defScope s_Manners_eq) := ⟨rfl, rfl, rfl, by decide +kernel, rfl, by decide +kernel, by decide +kernel⟩
abbrev s_Manners_or : Stmt := inClass (top 4) 6
abbrev N_Manners_or : List Str := ["self", "other", "names", "word"]
abbrev P_Manners_or : List Str := ["self", "other"]
theorem sc_Manners_or : FnScope N_Manners_or P_Manners_or (defScope s_Manners_or) := ⟨rfl, rfl, rfl, by decide +kernel, rfl, by decide +kernel, by decide +kernel⟩
abbrev s_Manners_within : Stmt := inClass (top 4) 7
abbrev N_Manners_within : List Str := ["self", "other", "word"]
abbrev P_Manners_within : List Str := ["self", "other"]
theorem sc_Manners_within : FnScope N_Manners_within P_Manners_within (defScope s_Manners_within) := ⟨rfl, rfl, rfl, by decide +kernel, rfl, by decide +kernel, by decide +kernel⟩
abbrev s_Profile_init : Stmt := inClass (top 6) 0
abbrev N_Profile_init : List Str := ["self", "sets", "given", "least", "one", "other"]
abbrev P_Profile_init : List Str := ["self", "sets"]
theorem sc_Profile_init : FnScope N_Profile_init P_Profile_init (defScope s_Profile_init) := ⟨rfl, rfl, rfl, by decide +kernel, rfl, by decide +kernel, by decide +kernel⟩
abbrev s_Profile_is_quiet : Stmt := inClass (top 6) 2
abbrev N_Profile_is_quiet : List Str := ["self"]
abbrev P_Profile_is_quiet : List Str := ["self"]
theorem sc_Profile_is_quiet : FnScope N_Profile_is_quiet P_Profile_is_quiet (defScope s_Profile_is_quiet) := ⟨rfl, rfl, rfl, by decide +kernel, rfl, by decide +kernel, by decide +kernel⟩
abbrev s_Profile_greatest : Stmt := inClass (top 6) 3
abbrev N_Profile_greatest : List Str := ["self", "quiet", "one", "other"]
abbrev P_Profile_greatest : List Str := ["self"]
theorem sc_Profile_greatest : FnScope N_Profile_greatest P_Profile_greatest (defScope s_Profile_greatest) := ⟨rfl, rfl, rfl, by decide +kernel, rfl, by decide +kernel, by decide +kernel⟩
abbrev s_Profile_within : Stmt := inClass (top 6) 4
abbrev N_Profile_within : List Str := ["self", "other", "one"]
abbrev P_Profile_within : List Str := ["self", "other"]
theorem sc_Profile_within : FnScope N_Profile_within P_Profile_within (defScope s_Profile_within) := ⟨rfl, rfl, rfl, by decide +kernel, rfl, by decide +kernel, by decide +kernel⟩
abbrev s_Profile_contains : Stmt := inClass (top 6) 5
abbrev N_Profile_contains : List Str := ["self", "manners", "one"]
abbrev P_Profile_contains : List Str := ["self", "manners"]
theorem sc_Profile_contains : FnScope N_Profile_contains P_Profile_contains (defScope s_Profile_contains) := ⟨rfl, rfl, rfl, by decide +kernel, rfl, by decide +kernel, by decide +kernel⟩
abbrev s_Profile_len : Stmt := inClass (top 6) 6
abbrev N_Profile_len : List Str := ["self", "one"]
abbrev P_Profile_len : List Str := ["self"]
theorem sc_Profile_len : FnScope N_Profile_len P_Profile_len (defScope s_Profile_len) := ⟨rfl, rfl, rfl, by decide +kernel, rfl, by decide +kernel, by decide +kernel⟩
abbrev s_Profile_iter : Stmt := inClass (top 6) 7
abbrev N_Profile_iter : List Str := ["self"]
abbrev P_Profile_iter : List Str := ["self"]
theorem sc_Profile_iter : FnScope N_Profile_iter P_Profile_iter (defScope s_Profile_iter) := ⟨rfl, rfl, rfl, by decide +kernel, rfl, by decide +kernel, by decide +kernel⟩
abbrev s_Profile_eq : Stmt := inClass (top 6) 8
abbrev N_Profile_eq : List Str := ["self", "other"]
abbrev P_Profile_eq : List Str := ["self", "other"]
theorem sc_Profile_eq : FnScope N_Profile_eq P_Profile_eq (defScope s_Profile_eq) := ⟨rfl, rfl, rfl, by decide +kernel, rfl, by decide +kernel, by decide +kernel⟩
abbrev s_Profile_or : Stmt := inClass (top 6) 9
abbrev N_Profile_or : List Str := ["self", "other"]
abbrev P_Profile_or : List Str := ["self", "other"]
theorem sc_Profile_or : FnScope N_Profile_or P_Profile_or (defScope s_Profile_or) := ⟨rfl, rfl, rfl, by decide +kernel, rfl, by decide +kernel, by decide +kernel⟩
abbrev s_Profile_and : Stmt := inClass (top 6) 10
abbrev N_Profile_and : List Str := ["self", "other", "one", "two"]
abbrev P_Profile_and : List Str := ["self", "other"]
theorem sc_Profile_and : FnScope N_Profile_and P_Profile_and (defScope s_Profile_and) := ⟨rfl, rfl, rfl, by decide +kernel, rfl, by decide +kernel, by decide +kernel⟩
abbrev s_bag : Stmt := top 8
abbrev N_bag : List Str := ["_law_script", "_law_at", "_law_number", "_law_mixed", "_law_spot", "_law_each"]
abbrev P_bag : List Str := ["_law_script", "_law_at"]
theorem sc_bag : FnScope N_bag P_bag (defScope s_bag) := ⟨rfl, rfl, rfl, by decide +kernel, rfl, by decide +kernel, by decide +kernel⟩
abbrev s_take : Stmt := top 9
abbrev N_take : List Str := ["_law_bag_here", "_law_many", "_law_digit"]
abbrev P_take : List Str := ["_law_bag_here", "_law_many"]
theorem sc_take : FnScope N_take P_take (defScope s_take) := ⟨rfl, rfl, rfl, by decide +kernel, rfl, by decide +kernel, by decide +kernel⟩
abbrev s_of : Stmt := top 10
abbrev N_of : List Str := ["_law_bag_here", "_law_some"]
abbrev P_of : List Str := ["_law_bag_here", "_law_some"]
theorem sc_of : FnScope N_of P_of (defScope s_of) := ⟨rfl, rfl, rfl, by decide +kernel, rfl, by decide +kernel, by decide +kernel⟩
abbrev s_eight : Stmt := top 11
abbrev N_eight : List Str := []
abbrev P_eight : List Str := []
theorem sc_eight : FnScope N_eight P_eight (defScope s_eight) := ⟨rfl, rfl, rfl, by decide +kernel, rfl, by decide +kernel, by decide +kernel⟩
abbrev s_manners : Stmt := top 12
abbrev N_manners : List Str := ["_law_names", "_law_found", "_law_name"]
abbrev P_manners : List Str := ["_law_names"]
theorem sc_manners : FnScope N_manners P_manners (defScope s_manners) := ⟨rfl, rfl, rfl, by decide +kernel, rfl, by decide +kernel, by decide +kernel⟩
abbrev s_is : Stmt := top 13
abbrev N_is : List Str := ["_law_actual", "_law_expected"]
abbrev P_is : List Str := ["_law_actual", "_law_expected"]
theorem sc_is : FnScope N_is P_is (defScope s_is) := ⟨rfl, rfl, rfl, by decide +kernel, rfl, by decide +kernel, by decide +kernel⟩
abbrev s_part : Stmt := top 14
abbrev N_part : List Str := ["_law_less", "_law_more", "_law_name"]
abbrev P_part : List Str := ["_law_less", "_law_more"]
theorem sc_part : FnScope N_part P_part (defScope s_part) := ⟨rfl, rfl, rfl, by decide +kernel, rfl, by decide +kernel, by decide +kernel⟩
abbrev s_telling : Stmt := top 15
abbrev N_telling : List Str := ["_law_sets_here", "_law_one", "_law_less"]
abbrev P_telling : List Str := ["_law_sets_here"]
theorem sc_telling : FnScope N_telling P_telling (defScope s_telling) := ⟨rfl, rfl, rfl, by decide +kernel, rfl, by decide +kernel, by decide +kernel⟩
abbrev s_least : Stmt := top 16
abbrev N_least : List Str := ["_law_telling_here", "_law_one", "_law_less"]
abbrev P_least : List Str := ["_law_telling_here"]
theorem sc_least : FnScope N_least P_least (defScope s_least) := ⟨rfl, rfl, rfl, by decide +kernel, rfl, by decide +kernel, by decide +kernel⟩
abbrev s_greatest : Stmt := top 17
abbrev N_greatest : List Str := ["_law_telling_here", "_law_quiet", "_law_one", "_law_more"]
abbrev P_greatest : List Str := ["_law_telling_here"]
theorem sc_greatest : FnScope N_greatest P_greatest (defScope s_greatest) := ⟨rfl, rfl, rfl, by decide +kernel, rfl, by decide +kernel, by decide +kernel⟩
abbrev s_fits : Stmt := top 18
abbrev N_fits : List Str := ["_law_profile", "_law_telling_here", "_law_least_here", "_law_one", "_law_told"]
abbrev P_fits : List Str := ["_law_profile", "_law_telling_here"]
theorem sc_fits : FnScope N_fits P_fits (defScope s_fits) := ⟨rfl, rfl, rfl, by decide +kernel, rfl, by decide +kernel, by decide +kernel⟩
abbrev s_sets : Stmt := top 19
abbrev N_sets : List Str := ["_law_bag_here", "_law_turn"]
abbrev P_sets : List Str := ["_law_bag_here"]
theorem sc_sets : FnScope N_sets P_sets (defScope s_sets) := ⟨rfl, rfl, rfl, by decide +kernel, rfl, by decide +kernel, by decide +kernel⟩
abbrev s_law : Stmt := top 20
abbrev N_law : List Str := ["_law_script", "_law_at", "_law_bag_here", "_law_sets_here", "_law_others", "_law_given", "_law_one", "_law_two", "_law_first", "_law_second", "_law_each"]
abbrev P_law : List Str := ["_law_script"]
theorem sc_law : FnScope N_law P_law (defScope s_law) := ⟨rfl, rfl, rfl, by decide +kernel, rfl, by decide +kernel, by decide +kernel⟩
structure Txt (K : PySem.W.Frag) (mg : Str → Option Value) where
  f_Manners_init : Addr
  d_Manners_init : FuncData
  F_Manners_init : Fun K "__init__" "Manners.__init__" s_Manners_init f_Manners_init d_Manners_init
  f_Manners_every : Addr
  d_Manners_every : FuncData
  F_Manners_every : Fun K "every" "Manners.every" s_Manners_every f_Manners_every d_Manners_every
  B_Manners_every : Binds K d_Manners_every P_Manners_every []
  f_Manners_eq : Addr
  d_Manners_eq : FuncData
  F_Manners_eq : Fun K "__eq__" "Manners.__eq__" s_Manners_eq f_Manners_eq d_Manners_eq
  B_Manners_eq : Binds K d_Manners_eq P_Manners_eq []
  f_Manners_or : Addr
  d_Manners_or : FuncData
  F_Manners_or : Fun K "__or__" "Manners.__or__" s_Manners_or f_Manners_or d_Manners_or
  B_Manners_or : Binds K d_Manners_or P_Manners_or []
  f_Manners_within : Addr
  d_Manners_within : FuncData
  F_Manners_within : Fun K "within" "Manners.within" s_Manners_within f_Manners_within d_Manners_within
  B_Manners_within : Binds K d_Manners_within P_Manners_within []
  f_Profile_init : Addr
  d_Profile_init : FuncData
  e0_Profile_init : Addr
  et_Profile_init : ∀ H, SqT K H e0_Profile_init []
  F_Profile_init : FunD K "__init__" "Profile.__init__" (defArgs s_Profile_init) (defBody s_Profile_init) (defScope s_Profile_init) [.ref e0_Profile_init] [] f_Profile_init d_Profile_init
  f_Profile_is_quiet : Addr
  d_Profile_is_quiet : FuncData
  F_Profile_is_quiet : Fun K "is_quiet" "Profile.is_quiet" s_Profile_is_quiet f_Profile_is_quiet d_Profile_is_quiet
  B_Profile_is_quiet : Binds K d_Profile_is_quiet P_Profile_is_quiet []
  f_Profile_greatest : Addr
  d_Profile_greatest : FuncData
  F_Profile_greatest : Fun K "greatest" "Profile.greatest" s_Profile_greatest f_Profile_greatest d_Profile_greatest
  B_Profile_greatest : Binds K d_Profile_greatest P_Profile_greatest []
  f_Profile_within : Addr
  d_Profile_within : FuncData
  F_Profile_within : Fun K "within" "Profile.within" s_Profile_within f_Profile_within d_Profile_within
  B_Profile_within : Binds K d_Profile_within P_Profile_within []
  f_Profile_contains : Addr
  d_Profile_contains : FuncData
  F_Profile_contains : Fun K "__contains__" "Profile.__contains__" s_Profile_contains f_Profile_contains d_Profile_contains
  B_Profile_contains : Binds K d_Profile_contains P_Profile_contains []
  f_Profile_len : Addr
  d_Profile_len : FuncData
  F_Profile_len : Fun K "__len__" "Profile.__len__" s_Profile_len f_Profile_len d_Profile_len
  B_Profile_len : Binds K d_Profile_len P_Profile_len []
  f_Profile_iter : Addr
  d_Profile_iter : FuncData
  F_Profile_iter : Fun K "__iter__" "Profile.__iter__" s_Profile_iter f_Profile_iter d_Profile_iter
  B_Profile_iter : Binds K d_Profile_iter P_Profile_iter []
  f_Profile_eq : Addr
  d_Profile_eq : FuncData
  F_Profile_eq : Fun K "__eq__" "Profile.__eq__" s_Profile_eq f_Profile_eq d_Profile_eq
  B_Profile_eq : Binds K d_Profile_eq P_Profile_eq []
  f_Profile_or : Addr
  d_Profile_or : FuncData
  F_Profile_or : Fun K "__or__" "Profile.__or__" s_Profile_or f_Profile_or d_Profile_or
  B_Profile_or : Binds K d_Profile_or P_Profile_or []
  f_Profile_and : Addr
  d_Profile_and : FuncData
  F_Profile_and : Fun K "__and__" "Profile.__and__" s_Profile_and f_Profile_and d_Profile_and
  B_Profile_and : Binds K d_Profile_and P_Profile_and []
  f_bag : Addr
  d_bag : FuncData
  F_bag : Fun K "_law_bag" "_law_bag" s_bag f_bag d_bag
  B_bag : Binds K d_bag P_bag []
  g_bag : mg "_law_bag" = some (.ref f_bag)
  f_take : Addr
  d_take : FuncData
  F_take : Fun K "_law_take" "_law_take" s_take f_take d_take
  B_take : Binds K d_take P_take []
  g_take : mg "_law_take" = some (.ref f_take)
  f_of : Addr
  d_of : FuncData
  F_of : Fun K "_law_of" "_law_of" s_of f_of d_of
  B_of : Binds K d_of P_of []
  g_of : mg "_law_of" = some (.ref f_of)
  f_eight : Addr
  d_eight : FuncData
  F_eight : Fun K "_law_eight" "_law_eight" s_eight f_eight d_eight
  B_eight : Binds K d_eight P_eight []
  g_eight : mg "_law_eight" = some (.ref f_eight)
  f_manners : Addr
  d_manners : FuncData
  F_manners : Fun K "_law_manners" "_law_manners" s_manners f_manners d_manners
  B_manners : Binds K d_manners P_manners []
  g_manners : mg "_law_manners" = some (.ref f_manners)
  f_is : Addr
  d_is : FuncData
  F_is : Fun K "_law_is" "_law_is" s_is f_is d_is
  B_is : Binds K d_is P_is []
  g_is : mg "_law_is" = some (.ref f_is)
  f_part : Addr
  d_part : FuncData
  F_part : Fun K "_law_part" "_law_part" s_part f_part d_part
  B_part : Binds K d_part P_part []
  g_part : mg "_law_part" = some (.ref f_part)
  f_telling : Addr
  d_telling : FuncData
  F_telling : Fun K "_law_telling" "_law_telling" s_telling f_telling d_telling
  B_telling : Binds K d_telling P_telling []
  g_telling : mg "_law_telling" = some (.ref f_telling)
  f_least : Addr
  d_least : FuncData
  F_least : Fun K "_law_least" "_law_least" s_least f_least d_least
  B_least : Binds K d_least P_least []
  g_least : mg "_law_least" = some (.ref f_least)
  f_greatest : Addr
  d_greatest : FuncData
  F_greatest : Fun K "_law_greatest" "_law_greatest" s_greatest f_greatest d_greatest
  B_greatest : Binds K d_greatest P_greatest []
  g_greatest : mg "_law_greatest" = some (.ref f_greatest)
  f_fits : Addr
  d_fits : FuncData
  F_fits : Fun K "_law_fits" "_law_fits" s_fits f_fits d_fits
  B_fits : Binds K d_fits P_fits []
  g_fits : mg "_law_fits" = some (.ref f_fits)
  f_sets : Addr
  d_sets : FuncData
  F_sets : Fun K "_law_sets" "_law_sets" s_sets f_sets d_sets
  B_sets : Binds K d_sets P_sets []
  g_sets : mg "_law_sets" = some (.ref f_sets)
  f_law : Addr
  d_law : FuncData
  F_law : Fun K "law" "law" s_law f_law d_law
  B_law : Binds K d_law P_law []
  g_law : mg "law" = some (.ref f_law)
  C_Manners : Addr
  g_Manners : mg "Manners" = some (.ref C_Manners)
  cl_Manners : Cls K C_Manners
  M_Manners : Mk K C_Manners f_Manners_init
  na_Manners_names : NoAttr K C_Manners "names"
  cr_Manners : ClX.CRead K C_Manners (.type "type")
  w_Manners_WORDS : Addr
  cv_Manners_WORDS : ClX.CVal K C_Manners (.type "type") "WORDS" (.ref w_Manners_WORDS) (.ref w_Manners_WORDS)
  ct_Manners_WORDS : ∀ H, SqT K H w_Manners_WORDS [.str "ask", .str "old", .str "set"]
  p_Manners_every : Addr
  sm_Manners_every : Way.SMet K C_Manners (.type "type") "every" p_Manners_every f_Manners_every
  m_Manners_eq : Meth K C_Manners "__eq__" f_Manners_eq
  m_Manners_or : Meth K C_Manners "__or__" f_Manners_or
  m_Manners_within : Meth K C_Manners "within" f_Manners_within
  ic_Manners : Way.InsC K C_Manners
  C_Profile : Addr
  g_Profile : mg "Profile" = some (.ref C_Profile)
  cl_Profile : Cls K C_Profile
  M_Profile : Mk K C_Profile f_Profile_init
  na_Profile_least_sets : NoAttr K C_Profile "least_sets"
  p_Profile_is_quiet : Addr
  pr_Profile_is_quiet : PropOf K C_Profile "is_quiet" p_Profile_is_quiet f_Profile_is_quiet
  m_Profile_greatest : Meth K C_Profile "greatest" f_Profile_greatest
  m_Profile_within : Meth K C_Profile "within" f_Profile_within
  m_Profile_contains : Meth K C_Profile "__contains__" f_Profile_contains
  m_Profile_len : Meth K C_Profile "__len__" f_Profile_len
  m_Profile_iter : Meth K C_Profile "__iter__" f_Profile_iter
  m_Profile_eq : Meth K C_Profile "__eq__" f_Profile_eq
  m_Profile_or : Meth K C_Profile "__or__" f_Profile_or
  m_Profile_and : Meth K C_Profile "__and__" f_Profile_and
  it_Profile : Way.OwnIt K C_Profile f_Profile_iter
  ic_Profile : Way.InsC K C_Profile
  b_ValueError : mg "ValueError" = none
  b_staticmethod : mg "staticmethod" = none
  b_classmethod : mg "classmethod" = none
  b_property : mg "property" = none
  b_enumerate : mg "enumerate" = none
  b_isinstance : mg "isinstance" = none
  b_bool : mg "bool" = none
  b_range : mg "range" = none
  b_tuple : mg "tuple" = none
  b_len : mg "len" = none
  b_all : mg "all" = none
  b_list : mg "list" = none
  b_any : mg "any" = none
  b_iter : mg "iter" = none
  b_int : mg "int" = none
  b_max : mg "max" = none
  b_str : mg "str" = none
  b_abs : mg "abs" = none
  b_min : mg "min" = none
  b_super : mg "super" = none
/-! the eight sets, by code -/
abbrev Cd := Fin 8
abbrev nmL : List (List Str) := [[], ["ask"], ["old"], ["set"], ["ask", "old"], ["ask", "set"], ["old", "set"], ["ask", "old", "set"]]
def nm (i : Cd) : List Str := nmL.getD i.val []
def sV (i : Cd) : List V := (nm i).map V.str
abbrev words : List V := [.str "ask", .str "old", .str "set"]
def mk (i : Cd) : Nat := [0, 1, 2, 4, 3, 5, 6, 7].getD i.val 0
def ofMk (m : Nat) : Cd := ([0, 1, 2, 4, 3, 5, 6, 7] : List Cd).getD m 0
def prt (i j : Cd) : Bool := (mk i) &&& (mk j) == mk i
def orI (i j : Cd) : Cd := ofMk ((mk i) ||| (mk j))
theorem sV_chk : ∀ i : Cd, ∀ k : Fin 3, ((sV i)[k.val]?.all fun y => inV y words && !inV y (cutV (sV i) none (some (k.val : Int)))) = true := by decide +kernel
theorem sV_len : ∀ i : Cd, (sV i).length ≤ 3 := by decide +kernel
theorem sV_flat : ∀ i : Cd, (sV i).all flatV = true := by decide +kernel
theorem words_in : ∀ i : Cd, words.filter (fun x => inV x (sV i)) = sV i := by decide +kernel
theorem words_or : ∀ i j : Cd, words.filter (fun x => inV x (sV i) || inV x (sV j)) = sV (orI i j) := by decide +kernel
theorem words_flat : ∀ x ∈ words, flatV x = true := by decide +kernel
theorem sV_prt : ∀ i j : Cd, ((sV i).map fun x => inV x (sV j)).all id = prt i j := by decide +kernel
theorem sV_str {i : Cd} {k : Nat} {y : V} (h : (sV i)[k]? = some y) : ∃ x, y = .str x := by
  unfold sV at h
  rw [List.getElem?_map] at h
  cases e : (nm i)[k]? with
  | none => rw [e] at h; cases h
  | some x => rw [e] at h; exact ⟨x, (Option.some.inj h).symm⟩
theorem flat_cut (l : List V) {lo hi : Option Int} (h : l.all flatV = true) : (cutV l lo hi).all flatV = true := by
  refine List.all_eq_true.mpr fun x hx => List.all_eq_true.mp h x ?_
  unfold cutV at hx
  exact List.mem_of_mem_drop (List.mem_of_mem_take hx)
theorem eu_slT {K : PySem.W.Frag} {σ : L2.St} {H : Hp} {te : TE} {tl th : TO} {p : Addr} {xs : List V} {k : Nat} (h : Ev te σ H (.ref p)) (hs : SqT K H p xs) (h1 : EvO tl σ H none) (h2 : EvO th σ H (some (k : Int))) (hk : k < xs.length) : EvU (tSl (rSlT K) te tl th) σ H (cutV xs none (some (k : Int))) := fun H1 e Q q =>
  h H1 e _ fun H2 e2 => h1 H2 (e.trans e2) _ fun H3 e3 => h2 H3 ((e.trans e2).trans e3) _ fun H4 e4 => ⟨p, xs, rfl, ex_t (((e.trans e2).trans e3).trans e4) hs, fun z => by
    have := z.2
    rw [HT.sIx_nat] at this
    omega, fun t ht => q t _ (fresh_back ((e2.trans e3).trans e4) ht) (((e2.trans e3).trans e4).trans (Ex.new ht)) upd_same⟩
/-- a set of manners: an instance whose names are the code's -/
def MAt (C : Addr) (i : Cd) (v : V) (H : Hp) : Prop := ∃ x dx t, v = .ref x ∧ H x = some (.ins C dx [("names", .ref t)]) ∧ H t = some (.tup (sV i))
theorem mAt_mono {C : Addr} : Mon (MAt C) := fun i v H H' e ⟨x, dx, t, h1, h2, h3⟩ => ⟨x, dx, t, h1, e _ _ h2, e _ _ h3⟩
/-- a tuple of the code's names -/
def TAt (i : Cd) (v : V) (H : Hp) : Prop := ∃ t, v = .ref t ∧ H t = some (.tup (sV i))
theorem tAt_mono : Mon TAt := fun i v H H' e ⟨t, h1, h2⟩ => ⟨t, h1, e _ _ h2⟩
section
variable {K : PySem.W.Frag} {σ : L2.St} {H : Hp} {ta te : TE}
theorem ev_cval {C : Addr} {mc u : Value} {f : Str} {v : V} (h : Ev ta σ H (.ref C)) (r : ClX.CRead K C mc) (c : ClX.CVal K C mc f v u) : Ev (ClX.tCVal K ta f) σ H v := fun H1 e Q q => h H1 e _ fun H2 e2 => ⟨C, mc, v, u, rfl, r, c, q H2 e2⟩
theorem sfldX {tv : TE} {f : Str} {D : Ends} {Pv : V → Hp → Prop} (h : EvX tv σ H Pv) (k : ∀ y H1, Ex H H1 → Pv y H1 → ta σ H1 fun x H2 => ∃ a C dx fs, x = .ref a ∧ H2 a = some (.ins C dx fs) ∧ Cls K C ∧ NoAttr K C f ∧ fs.length < 1000 ∧ D.nx σ (upd H2 a (.ins C dx (putF f y fs)))) : sFld K ta tv f D σ H := h H (Ex.refl H) _ k
theorem ex_tupOf {xs : List V} (h : EvL te σ H xs) : EvX (tCB (fun xs H Q => ∃ p ys, xs = [.ref p] ∧ ((SqL K H p ys ∧ ∀ l, H l = none → Q (.ref l) (upd H l (.tup ys))) ∨ (SqT K H p ys ∧ Q (.ref p) H))) (tCons te tNil)) σ H (fun v H' => ∃ t, v = .ref t ∧ H' t = some (.tup xs)) := fun H1 e Q q =>
  h H1 e _ fun p H2 hn e2 h2 => ⟨p, xs, rfl, .inl ⟨SqL.of h2, fun l hl => q _ _ (e2.trans (Ex.new hl)) ⟨l, rfl, upd_same⟩⟩⟩
theorem ev_fld {C a dx : Addr} {f : Str} {fs : List (Str × V)} {v : V} (h : Ev ta σ H (.ref a)) (ha : H a = some (.ins C dx fs)) (c : Cls K C) (n : NoAttr K C f) (l : fs.lookup f = some v) : Ev (tFld K ta f) σ H v := fun H1 e Q q =>
  h H1 e _ fun H2 e2 => ⟨a, C, dx, fs, v, rfl, (e.trans e2) _ _ ha, c, n, l, q H2 e2⟩
end
def spMI (C : Addr) : Sp := fun vs H Q _ => ∃ (x p dx : Addr) (i : Cd), vs = [.ref x, .ref p] ∧ H p = some (.tup (sV i)) ∧ H x = some (.ins C dx []) ∧ ∀ t H', Kp x H H' → H' x = some (.ins C dx [("names", .ref t)]) → H' t = some (.tup (sV i)) → Q .non H'
abbrev spMR (C : Addr) : Sp := fun vs H Q E => ∃ ws rest, vs = ws ++ rest ∧ ws.length = (["self"] : List Str).length ∧ rest.length ≤ sizeLine ∧ ∀ p, H p = Option.none → spMI C (ws ++ [V.ref p]) (upd H p (.tup rest)) Q E
section
variable {P : Program} {w : World} {K : PySem.W.Frag} {mg : Str → Option Value} {base : Heap}
theorem ok_Manners_init (T : Txt K mg) : FnR P w K mg base CX0 1 T.f_Manners_init (spMR T.C_Manners) := by
  refine starOk (ps := ["self"]) (pv := "names") (sp := spMI T.C_Manners) T.F_Manners_init sc_Manners_init (fun kV doc pm an cdv ct => StX.bind_star1 (B := fun l => bindArgs (PySem.W.fnOf "__init__" "Manners.__init__" (defArgs s_Manners_init) (defBody s_Manners_init) (defScope s_Manners_init) .none kV doc pm an cdv ct) ⟨l, []⟩) (fun a => rfl) (fun a r rs => rfl)) (fun cdv A outer s H vs Q E hr h => ?_)
  obtain ⟨x, p, dx, i, rfl, hp, hx, kont⟩ := h
  refine ⟨_, (pss_cons (ps_for PassesOwn.never rfl (Way.pi_enumT (by rfl) T.b_enumerate (pa_cons (pv 1) pa_nil)) (pg_tup rfl (pgs_cons (pg_name (i := 2) sc_Manners_init.nd rfl (Or.inl rfl)) (pgs_cons (pg_name (i := 3) sc_Manners_init.nd rfl (Or.inl rfl)) pgs_nil))) (pss_one (ps_if (PW.pt (pw_or (pt_not (pt_val (pe_callB call_isi (by rfl) T.b_isinstance (by decide +kernel) (pa_cons (pv 3) (pa_cons (pe_bltn (v := .ty "str") (by rfl) T.b_str (by decide +kernel) rfl) pa_nil))))) (pw_or (pt_cmpR op_notIn_seq (pv 3) (ClX.pe_cval (pe_glob (v := .ref T.C_Manners) (by rfl) T.g_Manners rfl)) (by rfl)) (pw_or1 (pt_cmpR op_in_seq (pv 3) (pe_slice sl_tup (pv 1) po_none (po_some (pv 2))) (by rfl)))))) (pss_one Way.ps_never) pss_nil)))
      (pss_one (ps_fld (pv 0) (pe_callTy call_tuple_of (by rfl) T.b_tuple (by decide +kernel) (pa_cons (pe_lc (own := [("word", 4)]) (g := gName 4) (by rfl) sc_Manners_init.nd (pi_tup (ClX.pe_cval (pe_glob (v := .ref T.C_Manners) (by rfl) T.g_Manners rfl))) (blkOk_by (own := [("word", 4)]) (N := N_Manners_init) (sc := defScope s_Manners_init) (by decide +kernel)) (fun _ _ _ _ _ => (pg_name (i := 4) sc_Manners_init.nd rfl (Or.inl rfl))) (fun _ _ _ _ _ => (pts_one (pt_cmpR (Way.kk_in (K := K)) (pv 4) (pv 1) (by rfl)))) (fun _ _ _ _ _ => (pv 4))) pa_nil)) rfl))), ?_⟩
  have npx : p ≠ x := ne_of hp hx (fun z => by cases z)
  refine ⟨_, rfl, p, _, rfl, SqT.of hp, for_it walk_enumT (fun k σ H' => ∃ v2 v3, σ = [some (.ref x), some (.ref p), v2, v3, none] ∧ Ex H H') ⟨none, none, rfl, Ex.refl H⟩ (fun k σ H' _ ⟨_, _, _, X⟩ => SqT.of (X _ _ hp)) ?_ ?_⟩
  · rintro k u σ H' H'' hk ⟨v2, v3, rfl, X⟩ ⟨T', x1, y1, rfl, hT, rfl, e1, e2⟩
    cases e1
    obtain ⟨nmx, rfl⟩ := sV_str e2
    have X2 : Ex H (upd H' T' (.tup [.int (k : Nat), .str nmx])) := X.trans (Ex.new hT)
    refine ⟨T', _, rfl, SqT.of upd_same, rfl, _, _, rfl, _, _, rfl, rfl, ?_⟩
    have hk3 : k < 3 := Nat.lt_of_lt_of_le hk (sV_len i)
    have ck := sV_chk i ⟨k, hk3⟩
    have e2' : (sV i)[k]? = some (.str nmx) := e2
    simp only [e2', Option.all_some, Bool.and_eq_true, Bool.not_eq_true'] at ck
    refine s_when (b := false) (et_is (et_or (et_not (et_B (ev_cb (ea_cons (ev_var rfl) (ea_cons ev_c ea_nil)) (rc_isi (.ty _) ty_str (kit_ty (r := true) (by decide +kernel)))))) fun _ => et_or (et_test (ev_op (ev_var rfl) (ev_cval ev_c T.cr_Manners T.cv_Manners_WORDS) (rv_niT (T.ct_Manners_WORDS _) rfl rfl))) fun _ => et_test (ev_opU (ev_var rfl) (eu_slT (ev_var rfl) (st_of (X2 _ _ hp)) eo_none (eo_some (ev_var rfl)) hk) fun q H1 h1 _ => rv_isT (st_of h1) rfl (flat_cut _ (sV_flat i)))) ?_) (fun q => nomatch q) fun _ H1 X1 => ?_
    · rw [ck.1, ck.2]
      rfl
    · exact ⟨_, _, rfl, X2.trans X1⟩
  · rintro σ H' ⟨v2, v3, rfl, X⟩
    refine sfldX (ex_tupOf (el_fltT (K := K) (g := fun x => inV x (sV i)) (ev_cval ev_c T.cr_Manners T.cv_Manners_WORDS) (T.ct_Manners_WORDS _) (Nat.le_of_ble_eq_true rfl) (Nat.lt_of_lt_of_eq (by decide : 4 < 5) rfl) (fun _ => rfl) (fun y H1 X1 hy => et_test (ev_op (ev_var rfl) (ev_var rfl) (rv_isT (st_of ((X.trans X1) _ _ hp)) (words_flat y hy) (sV_flat i)))))) fun y H1 X1 ⟨t, ey, ht⟩ => ?_
    subst ey
    rw [words_in] at ht
    have X2 : Ex H H1 := X.trans X1
    have ntx : t ≠ x := ne_of ht (X2 _ _ hx) (fun z => by cases z)
    refine ⟨_, rfl, x, T.C_Manners, dx, [], rfl, X2 _ _ hx, T.cl_Manners, T.na_Manners_names, by decide, ?_⟩
    exact kont t _ (Kp.set (Kp.of X2)) upd_same ((upd_ne ntx).trans ht)
end
end K82

namespace K82
open PySem L2 Way Evl
theorem mAt_stay {C : Addr} : Stay (MAt C) := fun i v H H' D acc hD k ⟨x, dx, t, h1, h2, h3⟩ => ⟨x, dx, t, h1, k _ _ (fun z => by rw [z, hD] at h2; cases h2) h2, k _ _ (fun z => by rw [z, hD] at h3; cases h3) h3⟩
theorem tAt_stay : Stay TAt := fun i v H H' D acc hD k ⟨t, h1, h2⟩ => ⟨t, h1, k _ _ (fun z => by rw [z, hD] at h2; cases h2) h2⟩
theorem lat_put {α : Type} {P : α → V → Hp → Prop} {S : List α} {H : Hp} {l : Addr} {xs ys : List V} (st : Stay P) (hl : H l = some (.lst xs)) (p : Paired (fun x i => P i x H) ys S) : LAt P S (.ref l) (upd H l (.lst ys)) :=
  ⟨l, ys, rfl, upd_same, Paired.mapP p fun _ _ q => st _ _ _ _ l xs hl (Kp.set (Kp.refl _ _)) q⟩
section
variable {K : PySem.W.Frag} {σ : L2.St} {H : Hp} {te : TE} {ta : TA} {E : XK} {C : Addr} {i : Cd}
theorem mk_core {Q : VK} {H1 : Hp} {x dx : Addr} (hx : H1 x = none) (hd : H1 dx = none) (hn : dx ≠ x) (q : ∀ H2, Ex H1 H2 → MAt C i (.ref x) H2 → Q (.ref x) H2) : spMR C (.ref x :: sV i) (upd (upd H1 dx (.own x)) x (.ins C dx [])) (fun v H2 => v = .non ∧ Q (.ref x) H2) E := by
  refine ⟨[.ref x], sV i, rfl, rfl, sz_of (Nat.le_trans (sV_len i) (by decide)), fun p hp => ?_⟩
  have npx : p ≠ x := fun z => by rw [z, upd_same] at hp; cases hp
  have npd : p ≠ dx := fun z => by rw [z, upd_ne hn, upd_same] at hp; cases hp
  have hp1 : H1 p = none := by rw [upd_ne npx, upd_ne npd] at hp; exact hp
  refine ⟨x, p, dx, i, rfl, upd_same, (upd_ne npx.symm).trans upd_same, fun t H' k h1 h2 => ⟨rfl, q H' (fun b o e => ?_) ⟨x, dx, t, rfl, h1, h2⟩⟩⟩
  have b1 := ne_of_none e hx
  have b2 := ne_of_none e hd
  have b3 := ne_of_none e hp1
  exact k b o b1 ((upd_ne b3).trans ((upd_ne b1).trans ((upd_ne b2).trans e)))
theorem ex_makeR (h : EvA ta σ H (sV i)) : EvX (StX.tMakeR C (spMR C) E ta) σ H (MAt C i) := fun H1 e Q q => h H1 e _ fun H2 e2 x dx hx hd hn => mk_core hx hd hn fun H3 e3 m => q _ H3 (e2.trans e3) m
theorem ex_makeS {a : Addr} (h : Ev te σ H (.ref a)) (hs : SqT K H a (sV i) ∨ SqL K H a (sV i)) : EvX (tMakeS K C (spMR C) E te) σ H (MAt C i) := fun H1 e Q q => h H1 e _ fun H2 e2 =>
  ⟨a, sV i, rfl, hs.elim (fun z => .inl (ex_t (e.trans e2) z)) (fun z => .inr (ex_l (e.trans e2) z)), fun x dx hx hd hn => mk_core hx hd hn fun H3 e3 m => q _ H3 (e2.trans e3) m⟩
theorem ex_u {xs : List V} {R : V → Hp → Prop} (h : EvU te σ H xs) (r : ∀ p H1, H1 p = some (.tup xs) → R (.ref p) H1) : EvX te σ H R := fun H1 e Q q => h H1 e _ fun p H2 hp e2 h2 => q _ _ e2 (r p H2 h2)
theorem n_lstP {α : Type} {P : α → V → Hp → Prop} {S : List α} {tz : TS} {D : Ends} {j : Nat} (m : Mon P) (h : EvP ta σ H P S) (hz : S.length ≤ 100000) (k : ∀ l H1, H l = none → Ex H H1 → LAt P S (.ref l) H1 → tz D (σ.set j (some (.ref l))) H1) : tSeq (tAsg (tLst ta) (gName j)) tz D σ H :=
  h H (Ex.refl H) _ fun xs H2 e2 ps => ⟨sz_of (by have := Paired.length ps; omega), fun p hp => k p _ (fresh_back e2 hp) (e2.trans (Ex.new hp)) ⟨p, xs, rfl, upd_same, Paired.mapP ps fun _ _ z => m _ _ _ _ (Ex.new hp) z⟩⟩
theorem kp_ex {l : Addr} {H1 H2 : Hp} (hl : H l = none) (e : Ex H H1) (k : Kp l H1 H2) : Ex H H2 := fun b o q => k b o (ne_of_none q hl) (e b o q)
theorem x_appU {l : Addr} {to : TE} {D : Ends} {P : Cd → V → Hp → Prop} {S : List Cd} {c : Cd} (m : Mon P) (st : Stay P) (ho : Ev to σ H (.ref l)) (hl : LAt P S (.ref l) H) (h : EvX te σ H (P c)) (hz : S.length < 100000) (k : ∀ H1, Kp l H H1 → LAt P (S ++ [c]) (.ref l) H1 → D.nx σ H1) :
    tDrop (tBM K "list" rAppend to (tCons te tNil)) D σ H := ho H (Ex.refl H) _ fun H1 e1 => by
  obtain ⟨l', xs, el, h1, px⟩ := hl.mono m e1
  cases el
  refine ⟨Or.inl ⟨rfl, xs, sq_of h1⟩, h H1 e1 _ fun v H2 e2 hv => ?_⟩
  refine ⟨l, xs, v, rfl, rfl, e2 _ _ h1, sz_lt (by have := Paired.length px; omega), ?_⟩
  exact k _ (Kp.set (Kp.of (e1.trans e2))) (lat_put st (e2 _ _ h1) (pr_app (Paired.mapP px fun _ _ z => m _ _ _ _ e2 z) (.cons hv .nil)))
theorem x_ext {l : Addr} {to : TE} {tz : TS} {D : Ends} {P : Cd → V → Hp → Prop} {S S' : List Cd} {u : V} (m : Mon P) (st : Stay P) (ho : Ev to σ H (.ref l)) (hl : LAt P S (.ref l) H) (h : EvX te σ H (LAt P S')) (hz : S.length + S'.length ≤ 100000) (k : ∀ H1, Kp l H H1 → LAt P (S ++ S') (.ref l) H1 → tz D σ H1) :
    tSeq (tDrop (tBM K "list" rExtend to (tCons te tNil))) tz D σ H := ho H (Ex.refl H) _ fun H1 e1 => by
  have hl1 := hl.mono m e1
  obtain ⟨l', xs, el, h1, px⟩ := hl1
  cases el
  refine ⟨Or.inl ⟨rfl, xs, sq_of h1⟩, h H1 e1 _ fun v H2 e2 hv => ?_⟩
  obtain ⟨b, zs, rfl, h2, pz⟩ := hv
  refine ⟨l, b, xs, zs, rfl, rfl, e2 _ _ h1, h2, sz_of (by have := Paired.length px; have := Paired.length pz; omega), ?_⟩
  exact k _ (Kp.set (Kp.of (e1.trans e2))) (lat_put st (e2 _ _ h1) (pr_app (Paired.mapP px fun _ _ z => m _ _ _ _ e2 z) pz))
end
abbrev all8 : List Cd := [0, 1, 2, 3, 4, 5, 6, 7]
def spEvery (C : Addr) : Sp := fun vs H Q _ => vs = [] ∧ ∀ p H', H p = none → Ex H H' → LAt (MAt C) all8 (.ref p) H' → Q (.ref p) H'
theorem word_at : ∀ k : Fin 3, (words[k.val]?.map fun y => decide ([y] = sV ⟨k.val + 1, by omega⟩)) = some true := by decide +kernel
section
variable {P : Program} {w : World} {K : PySem.W.Frag} {mg : Str → Option Value} {base : Heap}
theorem ok_Manners_every (T : Txt K mg) : FnOk P w K mg base CX0 3 T.f_Manners_every T.d_Manners_every P_Manners_every (spEvery T.C_Manners) := by
  have G_Manners_init := ok_Manners_init (P := P) (w := w) (base := base) T
  refine T.F_Manners_every.ok sc_Manners_every (fun vs H Q E h => ?_) (fun cdv A outer s H vs Q E hr h => ?_)
  · rw [h.1]; rfl
  · obtain ⟨rfl, kont⟩ := h
    refine ⟨_, (pss_cons (ps_set (i := 0) sc_Manners_every.nd rfl (Or.inl rfl) (pe_lst (pa_cons (pe_tup pa_nil) pa_nil)))
      (pss_cons (ps_for PassesOwn.never rfl (pi_tup (ClX.pe_cval (pe_glob (v := .ref T.C_Manners) (by rfl) T.g_Manners rfl))) (pg_name (i := 1) sc_Manners_every.nd rfl (Or.inl rfl)) (pss_one (ps_expr (pe_bm PySem.F.plainAttrs_list PySem.F.slot_list_append PySem.F.type_list_append mt_append (pv 0) (pa_cons (pe_tup (pa_cons (pv 1) pa_nil)) pa_nil)))))
      (pss_cons (ps_expr (pe_bm PySem.F.plainAttrs_list PySem.F.slot_list_extend PySem.F.type_list_extend mt_extend (pv 0) (pa_cons (pe_lst (pa_cons (pe_tup (pa_cons pe_str (pa_cons pe_str pa_nil))) (pa_cons (pe_tup (pa_cons pe_str (pa_cons pe_str pa_nil))) (pa_cons (pe_tup (pa_cons pe_str (pa_cons pe_str pa_nil))) (pa_cons (pe_tup (pa_cons pe_str (pa_cons pe_str (pa_cons pe_str pa_nil)))) pa_nil))))) pa_nil)))
      (pss_one (ps_ret (pe_lc (own := [("row", 2)]) (g := gName 2) (by rfl) sc_Manners_every.nd (pi_list (pv 0)) (blkOk_by (own := [("row", 2)]) (N := N_Manners_every) (sc := defScope s_Manners_every) (by decide +kernel)) (fun _ _ _ _ _ => (pg_name (i := 2) sc_Manners_every.nd rfl (Or.inl rfl))) (fun _ _ _ _ _ => pts_nil) (fun _ _ _ _ _ => (Way.kk_makeS (K := K) T.M_Manners G_Manners_init (hr.mono (by decide)) (by rfl) T.g_Manners pass0 (pv 2))))))))), ?_⟩
    refine n_lstP (P := TAt) (S := [0]) tAt_mono (evp_cons tAt_mono (ex_u (eu_tup ea_nil (Nat.le_of_ble_eq_true rfl)) fun p H1 h => ⟨p, rfl, h⟩) evp_nil) (Nat.le_of_ble_eq_true rfl) fun l H1 n1 X1 hl => ?_
    refine q_forT (K := K) (ev_cval ev_c T.cr_Manners T.cv_Manners_WORDS) (T.ct_Manners_WORDS _) (fun k σ H' => ∃ v1, σ = [some (.ref l), v1, none] ∧ Ex H H' ∧ LAt TAt (all8.take (k + 1)) (.ref l) H') (fun H2 X2 => ⟨none, rfl, X1.trans X2, hl.mono tAt_mono X2⟩) (fun i σ' H' _ _ => T.ct_Manners_WORDS _) ?_ ?_
    · rintro k y σ' H' hy ⟨v1, rfl, X, hk⟩
      have hk3 : k < 3 := (List.getElem?_eq_some_iff.mp hy).1
      have wa := word_at ⟨k, hk3⟩
      have hy' : words[k]? = some y := hy
      simp only [hy', Option.map_some, Option.some.injEq, decide_eq_true_eq] at wa
      refine x_appU (P := TAt) (c := ⟨k + 1, by omega⟩) tAt_mono tAt_stay (ev_var rfl) hk (ex_u (eu_tup (ea_cons (ev_var rfl) ea_nil) (Nat.le_of_ble_eq_true rfl)) fun p H1 h => ⟨p, rfl, by rw [← wa]; exact h⟩) (by rw [List.length_take]; omega) fun H2 K2 h2 => ⟨_, rfl, kp_ex n1 X K2, ?_⟩
      have e : all8.take (k + 1) ++ [⟨k + 1, by omega⟩] = all8.take (k + 1 + 1) := by
        match k, hk3 with
        | 0, _ => rfl
        | 1, _ => rfl
        | 2, _ => rfl
      rw [e] at h2
      exact h2
    · rintro σ' H' ⟨v1, rfl, X, hk⟩
      refine x_ext (P := TAt) (S := [0, 1, 2, 3]) (S' := [4, 5, 6, 7]) (u := .non) tAt_mono tAt_stay (ev_var rfl) hk (EvN.x <| en_lstP tAt_mono (evp_cons tAt_mono (ex_u (eu_tup (ea_cons ev_c (ea_cons ev_c ea_nil)) (Nat.le_of_ble_eq_true rfl)) fun p H1 h => ⟨p, rfl, h⟩) (evp_cons tAt_mono (ex_u (eu_tup (ea_cons ev_c (ea_cons ev_c ea_nil)) (Nat.le_of_ble_eq_true rfl)) fun p H1 h => ⟨p, rfl, h⟩)
        (evp_cons tAt_mono (ex_u (eu_tup (ea_cons ev_c (ea_cons ev_c ea_nil)) (Nat.le_of_ble_eq_true rfl)) fun p H1 h => ⟨p, rfl, h⟩) (evp_cons tAt_mono (ex_u (eu_tup (ea_cons ev_c (ea_cons ev_c (ea_cons ev_c ea_nil))) (Nat.le_of_ble_eq_true rfl)) fun p H1 h => ⟨p, rfl, h⟩) evp_nil)))) (Nat.le_of_ble_eq_true rfl)) (Nat.le_of_ble_eq_true rfl) fun H2 K2 h2 => ?_
      have X2 := kp_ex n1 X K2
      refine n_ret (en_mapL (K := K) (P := TAt) (R := MAt T.C_Manners) (c := id) tAt_mono mAt_stay (ev_var rfl) h2 (Nat.le_of_ble_eq_true rfl) (fun _ => rfl) fun x i H3 X3 hi px => ?_) fun v H3 n3 X3 hv => ?_
      · obtain ⟨t, rfl, ht⟩ := px
        exact ex_makeS (ev_var rfl) (.inl (st_of ht))
      · rw [List.map_id] at hv
        exact kont v H3 (fresh_back X2 n3) (X2.trans X3) hv
/-! eq, or, within -/
def RM (C : Addr) : Addr → V → Hp → Bool → Prop := fun a y H b => ∃ i j, MAt C i (.ref a) H ∧ MAt C j y H ∧ b = decide (i = j)
def spOr (C : Addr) : Sp := fun vs H Q _ => ∃ a b i j, vs = [a, b] ∧ MAt C i a H ∧ MAt C j b H ∧ ∀ v H', Ex H H' → MAt C (orI i j) v H' → Q v H'
def spWith (C : Addr) : Sp := fun vs H Q _ => ∃ a b i j, vs = [a, b] ∧ MAt C i a H ∧ MAt C j b H ∧ ∀ H', Ex H H' → Q (.bl (prt i j)) H'
theorem eqv_nm : ∀ i j : Cd, PyData.eqv (.tuple ((nm i).map .str)) (.tuple ((nm j).map .str)) = decide (i = j) := by decide +kernel
theorem shp_nm0 : ∀ i : Cd, (PyData.tuple ((nm i).map PyData.str)).canLay0 = true := by decide +kernel
theorem shp_nm1 : ∀ i : Cd, (PyData.tuple ((nm i).map PyData.str)).depth ≤ 1 := by decide +kernel
theorem shp_nm (i : Cd) : Shp 1 (.tuple ((nm i).map PyData.str)) := ⟨shp_nm0 i, shp_nm1 i⟩
theorem dp_nm {K : PySem.W.Frag} {H : Hp} {t : Addr} {i : Cd} (h : H t = some (.tup (sV i))) : ∀ H1, Ex H H1 → Dp K H1 (.ref t) (.tuple ((nm i).map PyData.str)) := fun H1 e => .tup (SqT.of (e _ _ h)) (dp_strs (nm i))
theorem ok_Manners_eq (T : Txt K mg) : FnOk P w K mg base CX0 1 T.f_Manners_eq T.d_Manners_eq P_Manners_eq (spEqB (RM T.C_Manners)) := by
  refine T.F_Manners_eq.ok sc_Manners_eq (fun vs H Q E h => ?_) (fun cdv A outer s H vs Q E hr h => ?_)
  · obtain ⟨a, y, b, rfl, _⟩ := h
    rfl
  · obtain ⟨a, y, b, rfl, ⟨i, j, ⟨x, dx, t, e1, h1, h2⟩, ⟨x', dx', t', e1', h1', h2'⟩, rfl⟩, kont⟩ := h
    cases e1
    subst e1'
    refine ⟨_, (pss_one (ps_ret (pe_and (pe_callB call_isi (by rfl) T.b_isinstance (by decide +kernel) (pa_cons (pv 1) (pa_cons (pe_glob (v := .ref T.C_Manners) (by rfl) T.g_Manners rfl) pa_nil))) (pe_one (pe_cmpR (op_eqD hr.units) (pe_fld (pv 0) rfl) (pe_fld (pv 1) rfl) (nomark _)))))), ?_⟩
    refine s_ret (v := .bl (decide (i = j))) (ev_is (ev_andV (ev_cb (ea_cons (ev_var rfl) (ea_cons ev_c ea_nil)) (rc_isi (.own _) (fun H1 X1 => T.ic_Manners.ty T.cl_Manners (X1 _ _ h1')) kit_self)) fun _ => ev_op (ev_fld (ev_var rfl) h1 T.cl_Manners T.na_Manners_names rfl) (ev_fld (ev_var rfl) h1' T.cl_Manners T.na_Manners_names rfl) (rv_eqD (dp_nm h2) (dp_nm h2') (shp_nm i).ok (shp_nm j).ok)) ?_) fun H1 X1 => kont H1 X1
    rw [eqv_nm, Bool.true_and]
theorem ok_Manners_or (T : Txt K mg) : FnOk P w K mg base CX0 3 T.f_Manners_or T.d_Manners_or P_Manners_or (spOr T.C_Manners) := by
  have G_Manners_init := ok_Manners_init (P := P) (w := w) (base := base) T
  refine T.F_Manners_or.ok sc_Manners_or (fun vs H Q E h => ?_) (fun cdv A outer s H vs Q E hr h => ?_)
  · obtain ⟨a, b, i, j, rfl, _⟩ := h
    rfl
  · obtain ⟨a, b, i, j, rfl, ⟨x, dx, t, rfl, h1, h2⟩, ⟨x', dx', t', rfl, h1', h2'⟩, kont⟩ := h
    refine ⟨_, (pss_cons (ps_setLc (i := 2) (own := [("word", 3)]) (g := gName 3) (by rfl) sc_Manners_or.nd rfl rfl (sw_true rfl rfl rfl (by decide +kernel)) (pi_tup (ClX.pe_cval (pe_glob (v := .ref T.C_Manners) (by rfl) T.g_Manners rfl))) (blkOk_by (own := [("word", 3)]) (N := N_Manners_or) (sc := defScope s_Manners_or) (by decide +kernel)) (fun _ _ _ _ _ => (pg_name (i := 3) sc_Manners_or.nd rfl (Or.inl rfl))) (fun _ _ _ _ _ => (pts_one (PW.pt (pw_or (pt_cmpR (Way.kk_in (K := K)) (pv 3) (Way.kk_fld (K := K) (pv 0) rfl) (by rfl)) (pw_or1 (pt_cmpR (Way.kk_in (K := K)) (pv 3) (Way.kk_fld (K := K) (pv 1) rfl) (by rfl))))))) (fun _ _ _ _ _ => (pv 3)))
      (pss_one (ps_ret (Way.pe_makeS T.M_Manners G_Manners_init (hr.mono (by decide)) (by rfl) T.g_Manners pass0 (pv 2))))), ?_⟩
    refine q_asgL (el_fltT (K := K) (g := fun x => inV x (sV i) || inV x (sV j)) (ev_cval ev_c T.cr_Manners T.cv_Manners_WORDS) (T.ct_Manners_WORDS _) (Nat.le_of_ble_eq_true rfl) (Nat.lt_of_lt_of_eq (by decide : 3 < 4) rfl) (fun _ => rfl) (fun y H1 X1 hy => et_or (et_test (ev_op (ev_var rfl) (ev_fld (ev_var rfl) (X1 _ _ h1) T.cl_Manners T.na_Manners_names rfl) (rv_isT (st_of (X1 _ _ h2)) (words_flat y hy) (sV_flat i)))) fun _ => et_test (ev_op (ev_var rfl) (ev_fld (ev_var rfl) (X1 _ _ h1') T.cl_Manners T.na_Manners_names rfl) (rv_isT (st_of (X1 _ _ h2')) (words_flat y hy) (sV_flat j))))) fun p H1 hn X1 hp => ?_
    rw [words_or] at hp
    refine x_ret (ex_makeS (ev_var rfl) (.inr (sq_of hp))) fun v H2 X2 hv => kont v H2 (X1.trans X2) hv
theorem ok_Manners_within (T : Txt K mg) : FnOk P w K mg base CX0 1 T.f_Manners_within T.d_Manners_within P_Manners_within (spWith T.C_Manners) := by
  refine T.F_Manners_within.ok sc_Manners_within (fun vs H Q E h => ?_) (fun cdv A outer s H vs Q E hr h => ?_)
  · obtain ⟨a, b, i, j, rfl, _⟩ := h
    rfl
  · obtain ⟨a, b, i, j, rfl, ⟨x, dx, t, rfl, h1, h2⟩, ⟨x', dx', t', rfl, h1', h2'⟩, kont⟩ := h
    refine ⟨_, (pss_one (ps_ret (pe_callB (cr_all rfl) (by rfl) T.b_all (by decide +kernel) (pa_cons (pe_lc (own := [("word", 2)]) (g := gName 2) (by rfl) sc_Manners_within.nd (pi_tup (pe_fld (pv 0) rfl)) (blkOk_by (own := [("word", 2)]) (N := N_Manners_within) (sc := defScope s_Manners_within) (by decide +kernel)) (fun _ _ _ _ _ => (pg_name (i := 2) sc_Manners_within.nd rfl (Or.inl rfl))) (fun _ _ _ _ _ => pts_nil) (fun _ _ _ _ _ => (pe_cmpR (Way.kk_in (K := K)) (pv 2) (Way.kk_fld (K := K) (pv 1) rfl) (by rfl)))) pa_nil)))), ?_⟩
    refine s_ret (v := .bl (prt i j)) (ev_is (ev_allV (K := K) (w := fun y => inV y (sV j)) (ev_fld (ev_var rfl) h1 T.cl_Manners T.na_Manners_names rfl) (st_of h2) (Nat.le_trans (sV_len i) (by decide)) (fun _ => rfl) fun y H1 X1 hy => ev_op (ev_var rfl) (ev_fld (ev_var rfl) (X1 _ _ h1') T.cl_Manners T.na_Manners_names rfl) (rv_isT (st_of (X1 _ _ h2')) (List.all_eq_true.mp (sV_flat i) y hy) (sV_flat j))) (by rw [sV_prt])) fun H1 X1 => kont H1 X1
end
end K82

namespace K82
open PySem L2 Way Evl
/-! == of sets of manners, inside builtins -/
def DM (C : Addr) : EqvB := fun x y H b => ∃ i j, MAt C i x H ∧ MAt C j y H ∧ b = decide (i = j)
theorem monDM {C : Addr} : MonB (DM C) := fun x y H H' b e ⟨i, j, h1, h2, h3⟩ => ⟨i, j, mAt_mono _ _ _ _ e h1, mAt_mono _ _ _ _ e h2, h3⟩
theorem sV_inj : ∀ i j : Cd, decide (sV i = sV j) = decide (i = j) := by decide +kernel
theorem mAt_inj {C : Addr} {i j : Cd} {v : V} {H : Hp} (h1 : MAt C i v H) (h2 : MAt C j v H) : i = j := by
  obtain ⟨x, dx, t, rfl, a1, a2⟩ := h1
  obtain ⟨x', dx', t', e, b1, b2⟩ := h2
  cases e
  rw [a1] at b1
  cases b1
  rw [a2] at b2
  have e : sV i = sV j := HO.tup.inj (Option.some.inj b2)
  have := sV_inj i j
  rw [decide_eq_true e] at this
  exact of_decide_eq_true this.symm
theorem dm_ref {C : Addr} : ∀ x y H b, DM C x y H b → ∃ a c, x = .ref a ∧ y = .ref c ∧ (a = c → b = true) := fun x y H b ⟨i, j, h1, h2, hb⟩ => by
  obtain ⟨a, _, _, rfl, _⟩ := id h1
  obtain ⟨c, _, _, rfl, _⟩ := id h2
  refine ⟨a, c, rfl, rfl, fun e => ?_⟩
  subst e
  rw [hb, decide_eq_true (mAt_inj h1 h2)]
section
variable {X : Cx} {K : PySem.W.Frag} {mg : Str → Option Value}
theorem dm_own (T : Txt K mg) : ∀ x y H b, DM T.C_Manners x y H b → DOwn K T.C_Manners (RM T.C_Manners) x y H b := fun x y H b ⟨i, j, h1, h2, hb⟩ => by
  obtain ⟨a, dx, t, rfl, ha, ht⟩ := id h1
  obtain ⟨c, dy, t', rfl, hc, ht'⟩ := id h2
  exact ⟨a, dx, _, .ref T.C_Manners, rfl, ha, T.ic_Manners.ty T.cl_Manners hc, notFirst_self, i, j, h1, h2, hb⟩
theorem eqM (T : Txt K mg) (G : FnOk X.prog X.w X.K X.mg X.base CX0 1 T.f_Manners_eq T.d_Manners_eq P_Manners_eq (spEqB (RM T.C_Manners))) (h : X.K = K := by rfl) : EqB X 1 (DM T.C_Manners) := by
  subst h
  exact RcB.eqB (RcB.imp (rcB_own (E := fun _ _ _ => False) G T.m_Manners_eq.at_ T.m_Manners_eq.fn T.B_Manners_eq pass0) (dm_own T)) dm_ref
theorem kk_inM (T : Txt K mg) (G : FnOk X.prog X.w X.K X.mg X.base CX0 1 T.f_Manners_eq T.d_Manners_eq P_Manners_eq (spEqB (RM T.C_Manners))) (hr : Room 2 X.A) (h : X.K = K := by rfl) : OpR X (compareOp .In) (rInB (DM T.C_Manners) false) := op_inB monDM (eqM T G h) hr
theorem kk_neM (T : Txt K mg) (G : FnOk X.prog X.w X.K X.mg X.base CX0 1 T.f_Manners_eq T.d_Manners_eq P_Manners_eq (spEqB (RM T.C_Manners))) (hr : Room 2 X.A) (h : X.K = K := by rfl) : OpR X (compareOp .NotEq) (rNeB (DM T.C_Manners)) := by
  subst h
  exact fun pins s σ H x y v u Q I rx ry hq => op_neB (E := fun _ _ _ => False) G T.ic_Manners.mo T.m_Manners_eq.at_ T.ic_Manners.ne T.m_Manners_eq.fn T.B_Manners_eq pass0 hr pins s σ H x y v u Q I rx ry (let ⟨b, d, q⟩ := hq; ⟨b, dm_own T _ _ _ _ d, q⟩)
end
theorem any_at {α : Type} {f : α → Bool} {S : List α} : (List.range S.length).any (fun k => (S[k]?.map f).getD false) = S.any f := by
  rw [Bool.eq_iff_iff, List.any_eq_true, List.any_eq_true]
  constructor
  · rintro ⟨k, hk, h⟩
    cases e : S[k]? with
    | none => rw [e] at h; cases h
    | some s => rw [e] at h; exact ⟨s, List.mem_of_getElem? e, h⟩
  · rintro ⟨s, hs, h⟩
    obtain ⟨k, hk, e⟩ := List.mem_iff_getElem.mp hs
    refine ⟨k, List.mem_range.mpr hk, ?_⟩
    rw [List.getElem?_eq_getElem hk, e]
    exact h
section
variable {K : PySem.W.Frag} {σ : L2.St} {H : Hp} {ta te : TE} {t : TA} {C : Addr} {S : List Cd} {i j : Cd}
theorem rv_inM {v : V} {g : Addr} (hg : LAt (MAt C) S (.ref g) H) (hv : MAt C i v H) : RV (rInB (DM C) false) v (.ref g) H (.bl (S.any fun s => decide (s = i))) := fun H1 e Q q => by
  obtain ⟨g', xs, eg, h1, hp⟩ := hg.mono mAt_mono e
  cases eg
  refine ⟨g, xs, fun k => (S[k]?.map fun s => decide (s = i)).getD false, rfl, h1, fun k z hz => ?_, fun H2 e2 => ?_⟩
  · obtain ⟨s, hs, ps⟩ := pr_at hp hz
    exact ⟨s, i, ps, mAt_mono _ _ _ _ e hv, by simp only [hs]; rfl⟩
  · have e3 := Paired.length hp
    rw [e3]
    simp only [Bool.false_eq_true, if_false]
    rw [any_at]
    exact q H2 e2
theorem rv_neM {u v : V} (hu : MAt C i u H) (hv : MAt C j v H) : RV (rNeB (DM C)) u v H (.bl (!decide (i = j))) := fun H1 e Q q => ⟨_, ⟨i, j, mAt_mono _ _ _ _ e hu, mAt_mono _ _ _ _ e hv, rfl⟩, fun H2 e2 => q H2 e2⟩
theorem ev_meth {m : Str} {a dx : Addr} {fs : List (Str × V)} {sp : Sp} {vs dvs : List V} {E : XK} {z : V} (h : Ev ta σ H (.ref a)) (ha : H a = some (.ins C dx fs)) (l : fs.lookup m = none) (hr : EvA t σ H vs) (hs : SpV sp (.ref a :: (vs ++ dvs)) H z) : Ev (tMeth C m sp dvs E ta t) σ H z := fun H1 e Q q =>
  h H1 e _ fun H2 e2 => ⟨a, dx, fs, rfl, (e.trans e2) _ _ ha, l, hr H2 (e.trans e2) _ fun H3 e3 => hs H3 ((e.trans e2).trans e3) Q (fun H4 e4 => q H4 ((e2.trans e3).trans e4)) E⟩
theorem ev_with {E : XK} {u v : V} (hu : Ev ta σ H u) (mu : MAt C i u H) (hv : Ev te σ H v) (mv : MAt C j v H) : Ev (tMeth C "within" (spWith C) [] E ta (tCons te tNil)) σ H (.bl (prt i j)) := by
  obtain ⟨a, dx, t, rfl, ha, ht⟩ := id mu
  exact ev_meth hu ha rfl (ea_cons hv ea_nil) fun H1 e Q q E => ⟨_, _, i, j, rfl, mAt_mono _ _ _ _ e mu, mAt_mono _ _ _ _ e mv, fun H2 e2 => q H2 e2⟩
theorem et_truthL {P : Cd → V → Hp → Prop} {tt : TE} (h : EvN tt σ H (LAt P S)) : EvT (fun σ H Q => tt σ H fun x H' => ∃ k, TruV K x H' k ∧ Q k H') σ H (!S.isEmpty) := fun H1 e Q q => h H1 e _ fun p H2 hn e2 z => by
  obtain ⟨p', xs, ep, h1, hp⟩ := z
  cases ep
  refine ⟨!xs.isEmpty, .inl ⟨xs, sq_of h1, rfl⟩, ?_⟩
  have : xs.isEmpty = S.isEmpty := by cases hp <;> rfl
  rw [this]
  exact q H2 e2
theorem el_listA {p : Addr} {xs : List V} (ha : Ev ta σ H (.ref p)) (h : SqL K H p xs ∨ SqT K H p xs) : EvL (tCB (rListS K) (tCons ta tNil)) σ H xs := fun H1 e Q q =>
  ha H1 e _ fun H2 e2 => ⟨p, xs, rfl, h.elim (fun z => .inl (ex_l (e.trans e2) z)) (fun z => .inr (ex_t (e.trans e2) z)), fun l hl => q l _ (fresh_back e2 hl) (e2.trans (Ex.new hl)) upd_same⟩
theorem en_every {E : XK} (h : Ev ta σ H (.ref C)) : EvN (tSM C (spEvery C) E ta) σ H (LAt (MAt C) all8) := fun H1 e Q q => h H1 e _ fun H2 e2 => ⟨rfl, rfl, fun p H3 hn e3 z => q p H3 (fresh_back e2 hn) (e2.trans e3) z⟩
end
/-! profiles -/
def prof (S : List Cd) : List Cd := all8.filter fun one => (S.any fun s => decide (s = one)) && (S.filter fun o => !decide (o = one) && prt o one).isEmpty
def PAt (CP CM : Addr) (S : List Cd) (v : V) (H : Hp) : Prop := ∃ x dx t, v = .ref x ∧ H x = some (.ins CP dx [("least_sets", .ref t)]) ∧ UAt (MAt CM) S (.ref t) H
theorem pAt_mono {CP CM : Addr} {S : List Cd} {v : V} {H H' : Hp} (e : Ex H H') (h : PAt CP CM S v H) : PAt CP CM S v H' := let ⟨x, dx, t, h1, h2, h3⟩ := h; ⟨x, dx, t, h1, e _ _ h2, h3.mono mAt_mono e⟩
def spPI (K : PySem.W.Frag) (CP CM : Addr) : Sp := fun vs H Q _ => ∃ (x p dx : Addr) (xs : List V) (S : List Cd), vs = [.ref x, .ref p] ∧ (SqL K H p xs ∨ SqT K H p xs) ∧ Paired (fun y i => MAt CM i y H) xs S ∧ S.length ≤ 500 ∧ H x = some (.ins CP dx []) ∧ ∀ t H', Kp x H H' → H' x = some (.ins CP dx [("least_sets", .ref t)]) → UAt (MAt CM) (prof S) (.ref t) H' → Q .non H'
section
variable {P : Program} {w : World} {K : PySem.W.Frag} {mg : Str → Option Value} {base : Heap}
set_option maxHeartbeats 8000000 in
theorem ok_Profile_init (T : Txt K mg) : FnOk P w K mg base CX0 4 T.f_Profile_init T.d_Profile_init P_Profile_init (spPI K T.C_Profile T.C_Manners) := by
  have G_Manners_every := ok_Manners_every (P := P) (w := w) (base := base) T
  have G_Manners_within := ok_Manners_within (P := P) (w := w) (base := base) T
  have G_Manners_eq := ok_Manners_eq (P := P) (w := w) (base := base) T
  refine okD T.F_Profile_init sc_Profile_init (fun vs H Q E h => ?_) (fun cdv A outer s H vs Q E hr h => ?_)
  · obtain ⟨x, p, dx, xs, S, rfl, _⟩ := h
    rfl
  · obtain ⟨x, p, dx, xs, S, rfl, hs, hp, hz, hx, kont⟩ := h
    refine ⟨_, (pss_cons (ps_set (i := 2) sc_Profile_init.nd rfl (Or.inl rfl) (pe_callTy call_list_of (by rfl) T.b_list (by decide +kernel) (pa_cons (pv 1) pa_nil)))
      (pss_cons (ps_set (i := 3) sc_Profile_init.nd rfl (Or.inl rfl) (pe_lst pa_nil))
      (pss_cons (ps_for PassesOwn.never rfl (pi_list (Way.pe_smeth0 (pe_glob (v := .ref T.C_Manners) (by rfl) T.g_Manners rfl) T.cr_Manners T.sm_Manners_every G_Manners_every (hr.mono (by decide)) T.B_Manners_every pass0)) (pg_name (i := 4) sc_Profile_init.nd rfl (Or.inr rfl)) (pss_one (ps_if (PW.pt (pw_and (pt_cmpR (kk_inM T G_Manners_eq (hr.mono (by decide))) (pv 4) (pv 2) (by rfl)) (pw_and1 (pt_not (Way.kk_truth (K := K) (pe_lc (own := [("other", 5)]) (g := gName 5) (by rfl) sc_Profile_init.nd (pi_list (pv 2)) (blkOk_by (own := [("other", 5)]) (N := N_Profile_init) (sc := defScope s_Profile_init) (by decide +kernel)) (fun _ _ _ _ _ => (pg_name (i := 5) sc_Profile_init.nd rfl (Or.inl rfl))) (fun _ _ _ _ _ => (pts_one (PW.pt (pw_and (pt_cmpR (kk_neM T G_Manners_eq (hr.mono (by decide))) (pv 5) (pv 4) (nomark _)) (pw_and1 (pt_val (pe_meth (pv 5) T.cl_Manners T.m_Manners_within G_Manners_within (hr.mono (by decide)) T.B_Manners_within .nil pass0 (pa_cons (pv 4) pa_nil)))))))) (fun _ _ _ _ _ => (pv 5)))))))) (pss_one (ps_expr (pe_bm PySem.F.plainAttrs_list PySem.F.slot_list_append PySem.F.type_list_append mt_append (pv 3) (pa_cons (pv 4) pa_nil)))) pss_nil)))
      (pss_one (ps_fld (pv 0) (pe_callTy call_tuple_of (by rfl) T.b_tuple (by decide +kernel) (pa_cons (pv 3) pa_nil)) rfl))))), ?_⟩
    refine q_asgL (el_listA (ev_var rfl) hs) fun g H1 n1 X1 h1 => ?_
    have hg : LAt (MAt T.C_Manners) S (.ref g) H1 := ⟨g, xs, rfl, h1, Paired.mapP hp fun _ _ z => mAt_mono _ _ _ _ X1 z⟩
    refine n_lstP (P := MAt T.C_Manners) (S := []) mAt_mono evp_nil (Nat.zero_le _) fun L H2 n2 X2 hL => ?_
    have Xg : Ex H H2 := X1.trans X2
    have hg2 := hg.mono mAt_mono X2
    have nLH : H L = none := fresh_back X1 n2
    refine x_forL (K := K) (en_every (C := T.C_Manners) ev_c) (fun l ys k σ H' => ∃ v4, σ = [some (.ref x), some (.ref p), some (.ref g), some (.ref L), v4, none] ∧ Ex H H' ∧ LAt (MAt T.C_Manners) S (.ref g) H' ∧ l ≠ L ∧ H' l = some (.lst ys) ∧ Paired (fun y i => MAt T.C_Manners i y H') ys all8 ∧ LAt (MAt T.C_Manners) ((all8.take k).filter fun one => (S.any fun s => decide (s = one)) && (S.filter fun o => !decide (o = one) && prt o one).isEmpty) (.ref L) H') ?_ ?_ ?_ ?_
    · intro l ys H3 n3 X3 h3 p3
      obtain ⟨L', zs, eL, hL2, _⟩ := id hL
      cases eL
      exact ⟨none, rfl, Xg.trans X3, hg2.mono mAt_mono X3, (fun z => by rw [z, hL2] at n3; cases n3), h3, p3, hL.mono mAt_mono X3⟩
    · rintro l ys k σ H' ⟨v4, _, _, _, _, h, _⟩
      exact h
    · rintro l ys k y σ H' hy ⟨v4, rfl, X, hgk, hlL, hl, hp, hLk⟩
      obtain ⟨c, hc, pc⟩ := pr_at hp hy
      have hk : k < all8.length := (List.getElem?_eq_some_iff.mp hc).1
      have tk : all8.take (k + 1) = all8.take k ++ [c] := by rw [List.take_succ_eq_append_getElem hk, (List.getElem?_eq_some_iff.mp hc).2]
      refine s_when (et_and (et_test (ev_op (ev_var rfl) (ev_var rfl) (rv_inM hgk pc))) fun _ => et_not (et_truthL (en_fltL (K := K) (P := MAt T.C_Manners) (g := fun o => !decide (o = c) && prt o c) mAt_mono (ev_var rfl) hgk (by omega) (Nat.lt_of_lt_of_eq (by decide : 5 < 6) rfl) (fun _ => rfl) fun z i H3 X3 hi pz => et_and (et_test (ev_op (ev_var rfl) (ev_var rfl) (rv_neM pz (mAt_mono _ _ _ _ X3 pc)))) fun _ => et_B (ev_with (ev_var rfl) pz (ev_var rfl) (mAt_mono _ _ _ _ X3 pc))))) (fun q H3 X3 => ?_) (fun q H3 X3 => ?_)
      · refine x_appU (P := MAt T.C_Manners) (c := c) mAt_mono mAt_stay (ev_var rfl) (hLk.mono mAt_mono X3) (EvX.of (ev_var rfl) fun H4 X4 => mAt_mono _ _ _ _ (X3.trans X4) pc) ?_ fun H4 K4 h4 => ?_
        · have := List.length_filter_le (fun one => (S.any fun s => decide (s = one)) && (S.filter fun o => !decide (o = one) && prt o one).isEmpty) (all8.take k)
          have := List.length_take_le k all8
          have : all8.length = 8 := rfl
          omega
        · obtain ⟨L', zs, eL, hL3, _⟩ := (hLk.mono mAt_mono X3)
          cases eL
          have st : ∀ {i v}, MAt T.C_Manners i v H3 → MAt T.C_Manners i v H4 := fun h => mAt_stay _ _ _ _ L zs hL3 K4 h
          obtain ⟨g', gs, eg, hgs, pg⟩ := (hgk.mono mAt_mono X3)
          cases eg
          have ngL : g ≠ L := fun z => by rw [← z, h1] at n2; cases n2
          refine ⟨_, rfl, kp_ex nLH (X.trans X3) K4, ⟨g, gs, rfl, K4 _ _ ngL hgs, Paired.mapP pg fun _ _ z => st z⟩, hlL, K4 _ _ hlL (X3 _ _ hl), Paired.mapP hp fun _ _ z => st (mAt_mono _ _ _ _ X3 z), ?_⟩
          rw [tk, List.filter_append, List.filter_cons]
          have q' : ((S.any fun s => decide (s = c)) && (S.filter fun o => !decide (o = c) && prt o c).isEmpty) = true := by
            rw [Bool.not_not] at q
            exact q
          rw [q']
          exact h4
      · refine ⟨_, rfl, X.trans X3, hgk.mono mAt_mono X3, hlL, X3 _ _ hl, Paired.mapP hp fun _ _ z => mAt_mono _ _ _ _ X3 z, ?_⟩
        rw [tk, List.filter_append, List.filter_cons]
        have q' : ((S.any fun s => decide (s = c)) && (S.filter fun o => !decide (o = c) && prt o c).isEmpty) = false := by
          rw [Bool.not_not] at q
          exact q
        rw [q']
        simpa using hLk.mono mAt_mono X3
    · rintro l ys σ H' ⟨v4, rfl, X, hgk, hlL, hl, hp, hLk⟩
      have hy8 : ys.length = all8.length := Paired.length hp
      rw [hy8, List.take_length] at hLk
      obtain ⟨L', zs, eL, hL3, pL⟩ := hLk
      cases eL
      refine sfldX (Pv := fun v H2 => ∃ t, v = .ref t ∧ H2 t = some (.tup zs)) (fun H3 X3 Q' q => ⟨_, rfl, L, zs, rfl, .inl ⟨sq_of (X3 _ _ hL3), fun t ht => q _ _ (Ex.new ht) ⟨t, rfl, upd_same⟩⟩⟩) fun v H3 X3 ⟨t, ev, ht⟩ => ?_
      subst ev
      have X4 := X.trans X3
      have ntx : t ≠ x := ne_of ht (X4 _ _ hx) (fun z => by cases z)
      refine ⟨_, rfl, x, T.C_Profile, dx, [], rfl, X4 _ _ hx, T.cl_Profile, T.na_Profile_least_sets, by decide, ?_⟩
      refine kont t _ (Kp.set (Kp.of X4)) upd_same ⟨t, zs, rfl, (upd_ne ntx).trans ht, Paired.mapP pL fun y i z => ?_⟩
      obtain ⟨a, da, ta, rfl, a1, a2⟩ := mAt_mono _ _ _ _ X3 z
      refine ⟨a, da, ta, rfl, (upd_ne fun e => ?_).trans a1, (upd_ne fun e => ?_).trans a2⟩
      · rw [e, X4 _ _ hx] at a1
        exact absurd (HO.ins.inj (Option.some.inj a1)).2.2 (by simp)
      · rw [e, X4 _ _ hx] at a2
        cases a2
end
end K82

namespace K82
open PySem L2 Way Evl
section
variable {X : Cx} {K : PySem.W.Frag} {mg : Str → Option Value}
theorem kk_eqT (T : Txt K mg) (G : FnOk X.prog X.w X.K X.mg X.base CX0 1 T.f_Manners_eq T.d_Manners_eq P_Manners_eq (spEqB (RM T.C_Manners))) (hr : Room 2 X.A) (h : X.K = K := by rfl) : OpR X (compareOp .Eq) (rEqB (DTupB K (DM T.C_Manners))) := by
  subst h
  exact op_eqB (rcB_tup monDM (eqM T G rfl)) hr
end
section
variable {K : PySem.W.Frag} {σ : L2.St} {H : Hp} {ta te tl tb : TE} {t : TT} {CM CP : Addr} {S S' : List Cd} {i j : Cd}
theorem en_fltN {P : Cd → V → Hp → Prop} {jj : Nat} {vs : List Nat} {g : Cd → Bool} (m : Mon P) (h : EvN tl σ H (LAt P S)) (hz : S.length ≤ 40000) (hj : jj < σ.length) (hw : ∀ x, wipe ((wipe σ vs).set jj (some x)) vs = wipe σ vs)
    (ht : ∀ (x : V) (i : Cd) H1, Ex H H1 → i ∈ S → P i x H1 → EvT t ((wipe σ vs).set jj (some x)) H1 (g i)) : EvN (tLc (iList K tl) (gName jj) t (tVar jj) vs) σ H (LAt P (S.filter g)) := fun H1 e Q q =>
  h H1 e _ fun p H2 hn e2 hL => en_fltL (K := K) (tl := tC (.ref p)) (H := H2) m ev_c hL hz hj hw (fun x i H3 e3 hi px => ht x i H3 ((e.trans e2).trans e3) hi px) H2 (Ex.refl H2) Q fun p' H3 hn' e3 z => q p' H3 (fresh_back e2 hn') (e2.trans e3) z
theorem ev_lenP {P : Cd → V → Hp → Prop} (h : EvN te σ H (LAt P S)) : Ev (tCB (rLenS K) (tCons te tNil)) σ H (.int (S.length : Int)) := fun H1 e Q q => h H1 e _ fun p H2 hn e2 z => by
  obtain ⟨p', xs, ep, h1, hp⟩ := z
  cases ep
  have hl : xs.length = S.length := Paired.length hp
  refine ⟨p, xs, rfl, .inl (sq_of h1), ?_⟩
  rw [hl]
  exact q H2 e2
end
def cont (S : List Cd) (i : Cd) : Bool := (S.map fun o => prt o i).any id
def great (S : List Cd) : List Cd := let quiet := all8.filter fun i => !cont S i; quiet.filter fun one => (quiet.filter fun o => !decide (o = one) && prt one o).isEmpty
def spQuiet (CP CM : Addr) : Sp := fun vs H Q _ => ∃ v S, vs = [v] ∧ PAt CP CM S v H ∧ ∀ H', Ex H H' → Q (.bl S.isEmpty) H'
def spCont (CP CM : Addr) : Sp := fun vs H Q _ => ∃ v u S i, vs = [v, u] ∧ PAt CP CM S v H ∧ S.length ≤ 500 ∧ MAt CM i u H ∧ ∀ H', Ex H H' → Q (.bl (cont S i)) H'
def spPWith (CP CM : Addr) : Sp := fun vs H Q _ => ∃ v u S S', vs = [v, u] ∧ PAt CP CM S v H ∧ S.length ≤ 500 ∧ PAt CP CM S' u H ∧ S'.length ≤ 500 ∧ ∀ H', Ex H H' → Q (.bl ((S.map fun i => cont S' i).all id)) H'
def spLen (CP CM : Addr) : Sp := fun vs H Q _ => ∃ v S, vs = [v] ∧ PAt CP CM S v H ∧ S.length ≤ 500 ∧ ∀ H', Ex H H' → Q (.int ((all8.filter fun i => cont S i).length : Int)) H'
def spGreat (CP CM : Addr) : Sp := fun vs H Q _ => ∃ v S, vs = [v] ∧ PAt CP CM S v H ∧ S.length ≤ 500 ∧ ∀ p H', H p = none → Ex H H' → LAt (MAt CM) (great S) (.ref p) H' → Q (.ref p) H'
section
variable {K : PySem.W.Frag} {σ : L2.St} {H : Hp} {ta te tl tb : TE} {t : TT} {CM CP : Addr} {S S' : List Cd} {i j : Cd}
theorem rv_inP {E : XK} {neg : Bool} {u v : V} (hv : MAt CM i v H) (hu : PAt CP CM S u H) (hz : S.length ≤ 500) : RV (rInO CP (spCont CP CM) E neg) v u H (.bl (if neg then !cont S i else cont S i)) := fun H1 e Q q => by
  obtain ⟨x, dx, t, rfl, hx, _⟩ := id hu
  exact ⟨x, dx, _, rfl, e _ _ hx, _, _, S, i, rfl, pAt_mono e hu, hz, mAt_mono _ _ _ _ e hv, fun H2 e2 => ⟨_, rfl, q H2 e2⟩⟩
end
section
variable {P : Program} {w : World} {K : PySem.W.Frag} {mg : Str → Option Value} {base : Heap}
theorem ok_Profile_is_quiet (T : Txt K mg) : FnOk P w K mg base CX0 3 T.f_Profile_is_quiet T.d_Profile_is_quiet P_Profile_is_quiet (spQuiet T.C_Profile T.C_Manners) := by
  have G_Manners_eq := ok_Manners_eq (P := P) (w := w) (base := base) T
  refine T.F_Profile_is_quiet.ok sc_Profile_is_quiet (fun vs H Q E h => ?_) (fun cdv A outer s H vs Q E hr h => ?_)
  · obtain ⟨v, S, rfl, _⟩ := h
    rfl
  · obtain ⟨v, S, rfl, ⟨x, dx, t, rfl, hx, ⟨t', xs, et, ht, hp⟩⟩, kont⟩ := h
    cases et
    refine ⟨_, (pss_one (ps_ret (pe_cmpR (kk_eqT T G_Manners_eq (hr.mono (by decide))) (pe_fld (pv 0) rfl) (pe_tup pa_nil) (nomark _)))), ?_⟩
    refine s_ret (v := .bl S.isEmpty) (ev_opU (xs := []) (ev_fld (ev_var rfl) hx T.cl_Profile T.na_Profile_least_sets rfl) (eu_tup ea_nil (Nat.le_of_ble_eq_true rfl)) fun q H1 h1 X1 H2 X2 Q' q' => ?_) fun H1 X1 => kont H1 X1
    refine ⟨S.isEmpty, ⟨t, q, xs, [], fun _ => true, rfl, rfl, st_of (X2 _ _ (X1 _ _ ht)), st_of (X2 _ _ h1), fun k a b _ hb => by simp at hb, ?_⟩, fun H3 e3 => q' H3 e3⟩
    cases hp <;> simp
theorem ok_Profile_contains (T : Txt K mg) : FnOk P w K mg base CX0 2 T.f_Profile_contains T.d_Profile_contains P_Profile_contains (spCont T.C_Profile T.C_Manners) := by
  have G_Manners_within := ok_Manners_within (P := P) (w := w) (base := base) T
  refine T.F_Profile_contains.ok sc_Profile_contains (fun vs H Q E h => ?_) (fun cdv A outer s H vs Q E hr h => ?_)
  · obtain ⟨v, u, S, i, rfl, _⟩ := h
    rfl
  · obtain ⟨v, u, S, i, rfl, ⟨x, dx, t, rfl, hx, ⟨t', xs, et, ht, hp⟩⟩, hz, hu, kont⟩ := h
    cases et
    refine ⟨_, (pss_one (ps_ret (pe_callB (cr_any rfl) (by rfl) T.b_any (by decide +kernel) (pa_cons (pe_lc (own := [("one", 2)]) (g := gName 2) (by rfl) sc_Profile_contains.nd (pi_tup (pe_fld (pv 0) rfl)) (blkOk_by (own := [("one", 2)]) (N := N_Profile_contains) (sc := defScope s_Profile_contains) (by decide +kernel)) (fun _ _ _ _ _ => (pg_name (i := 2) sc_Profile_contains.nd rfl (Or.inl rfl))) (fun _ _ _ _ _ => pts_nil) (fun _ _ _ _ _ => (pe_meth (pv 2) T.cl_Manners T.m_Manners_within G_Manners_within (hr.mono (by decide)) T.B_Manners_within .nil pass0 (pa_cons (pv 1) pa_nil)))) pa_nil)))), ?_⟩
    refine s_ret (v := .bl (cont S i)) (ev_anyP (K := K) (P := MAt T.C_Manners) (w := fun o => prt o i) mAt_mono (ev_fld (ev_var rfl) hx T.cl_Profile T.na_Profile_least_sets rfl) (st_of ht) hp (by omega) (fun _ => rfl) fun y o H1 X1 ho py => ev_with (ev_var rfl) py (ev_var rfl) (mAt_mono _ _ _ _ X1 hu)) fun H1 X1 => kont H1 X1
theorem ok_Profile_within (T : Txt K mg) : FnOk P w K mg base CX0 3 T.f_Profile_within T.d_Profile_within P_Profile_within (spPWith T.C_Profile T.C_Manners) := by
  have G_Profile_contains := ok_Profile_contains (P := P) (w := w) (base := base) T
  refine T.F_Profile_within.ok sc_Profile_within (fun vs H Q E h => ?_) (fun cdv A outer s H vs Q E hr h => ?_)
  · obtain ⟨v, u, S, S', rfl, _⟩ := h
    rfl
  · obtain ⟨v, u, S, S', rfl, ⟨x, dx, t, rfl, hx, ⟨t', xs, et, ht, hp⟩⟩, hz, hu, hz', kont⟩ := h
    cases et
    refine ⟨_, (pss_one (ps_ret (pe_callB (cr_all rfl) (by rfl) T.b_all (by decide +kernel) (pa_cons (pe_lc (own := [("one", 2)]) (g := gName 2) (by rfl) sc_Profile_within.nd (pi_tup (pe_fld (pv 0) rfl)) (blkOk_by (own := [("one", 2)]) (N := N_Profile_within) (sc := defScope s_Profile_within) (by decide +kernel)) (fun _ _ _ _ _ => (pg_name (i := 2) sc_Profile_within.nd rfl (Or.inl rfl))) (fun _ _ _ _ _ => pts_nil) (fun _ _ _ _ _ => (pe_cmpR (Way.op_inO G_Profile_contains T.m_Profile_contains.at_ T.m_Profile_contains.fn T.B_Profile_contains pass0 (hr.mono (by decide))) (pv 2) (pv 1) (by rfl)))) pa_nil)))), ?_⟩
    refine s_ret (ev_allP (K := K) (P := MAt T.C_Manners) (w := fun o => cont S' o) mAt_mono (ev_fld (ev_var rfl) hx T.cl_Profile T.na_Profile_least_sets rfl) (st_of ht) hp (by omega) (fun _ => rfl) fun y o H1 X1 ho py => ev_op (ev_var rfl) (ev_var rfl) (rv_inP (neg := false) py (pAt_mono X1 hu) hz')) fun H1 X1 => kont H1 X1
theorem ok_Profile_len (T : Txt K mg) : FnOk P w K mg base CX0 4 T.f_Profile_len T.d_Profile_len P_Profile_len (spLen T.C_Profile T.C_Manners) := by
  have G_Manners_every := ok_Manners_every (P := P) (w := w) (base := base) T
  have G_Profile_contains := ok_Profile_contains (P := P) (w := w) (base := base) T
  refine T.F_Profile_len.ok sc_Profile_len (fun vs H Q E h => ?_) (fun cdv A outer s H vs Q E hr h => ?_)
  · obtain ⟨v, S, rfl, _⟩ := h
    rfl
  · obtain ⟨v, S, rfl, hv, hz, kont⟩ := h
    refine ⟨_, (pss_one (ps_ret (pe_callB call_len_seq (by rfl) T.b_len (by decide +kernel) (pa_cons (pe_lc (own := [("one", 1)]) (g := gName 1) (by rfl) sc_Profile_len.nd (pi_list (Way.pe_smeth0 (pe_glob (v := .ref T.C_Manners) (by rfl) T.g_Manners rfl) T.cr_Manners T.sm_Manners_every G_Manners_every (hr.mono (by decide)) T.B_Manners_every pass0)) (blkOk_by (own := [("one", 1)]) (N := N_Profile_len) (sc := defScope s_Profile_len) (by decide +kernel)) (fun _ _ _ _ _ => (pg_name (i := 1) sc_Profile_len.nd rfl (Or.inl rfl))) (fun _ _ _ _ _ => (pts_one (pt_cmpR (Way.op_inO G_Profile_contains T.m_Profile_contains.at_ T.m_Profile_contains.fn T.B_Profile_contains pass0 (hr.mono (by decide))) (pv 1) (pv 0) (by rfl)))) (fun _ _ _ _ _ => (pv 1))) pa_nil)))), ?_⟩
    refine s_ret (ev_lenP (K := K) (P := MAt T.C_Manners) (en_fltN (K := K) (g := fun i => cont S i) mAt_mono (en_every ev_c) (Nat.le_of_ble_eq_true rfl) (Nat.lt_of_lt_of_eq (by decide : 1 < 2) rfl) (fun _ => rfl) fun y o H1 X1 ho py => et_test (ev_op (ev_var rfl) (ev_var rfl) (rv_inP (neg := false) py (pAt_mono X1 hv) hz)))) fun H1 X1 => kont H1 X1
theorem ok_Profile_greatest (T : Txt K mg) : FnOk P w K mg base CX0 4 T.f_Profile_greatest T.d_Profile_greatest P_Profile_greatest (spGreat T.C_Profile T.C_Manners) := by
  have G_Manners_every := ok_Manners_every (P := P) (w := w) (base := base) T
  have G_Manners_within := ok_Manners_within (P := P) (w := w) (base := base) T
  have G_Profile_contains := ok_Profile_contains (P := P) (w := w) (base := base) T
  have G_Manners_eq := ok_Manners_eq (P := P) (w := w) (base := base) T
  refine T.F_Profile_greatest.ok sc_Profile_greatest (fun vs H Q E h => ?_) (fun cdv A outer s H vs Q E hr h => ?_)
  · obtain ⟨v, S, rfl, _⟩ := h
    rfl
  · obtain ⟨v, S, rfl, hv, hz, kont⟩ := h
    refine ⟨_, (pss_cons (ps_set (i := 1) sc_Profile_greatest.nd rfl (Or.inr rfl) (pe_lc (own := [("one", 2)]) (g := gName 2) (by rfl) sc_Profile_greatest.nd (pi_list (Way.pe_smeth0 (pe_glob (v := .ref T.C_Manners) (by rfl) T.g_Manners rfl) T.cr_Manners T.sm_Manners_every G_Manners_every (hr.mono (by decide)) T.B_Manners_every pass0)) (blkOk_by (own := [("one", 2)]) (N := N_Profile_greatest) (sc := defScope s_Profile_greatest) (by decide +kernel)) (fun _ _ _ _ _ => (pg_name (i := 2) sc_Profile_greatest.nd rfl (Or.inl rfl))) (fun _ _ _ _ _ => (pts_one (pt_cmpR (Way.op_notInO G_Profile_contains T.m_Profile_contains.at_ T.m_Profile_contains.fn T.B_Profile_contains pass0 (hr.mono (by decide))) (pv 2) (pv 0) (by rfl)))) (fun _ _ _ _ _ => (pv 2))))
      (pss_one (ps_ret (pe_lc (own := [("one", 2)]) (g := gName 2) (by rfl) sc_Profile_greatest.nd (pi_list (pv 1)) (blkOk_by (own := [("one", 2)]) (N := N_Profile_greatest) (sc := defScope s_Profile_greatest) (by decide +kernel)) (fun _ _ _ _ _ => (pg_name (i := 2) sc_Profile_greatest.nd rfl (Or.inr rfl))) (fun _ _ _ _ _ => (pts_one (pt_not (Way.kk_truth (K := K) (pe_lc (own := [("other", 3)]) (g := gName 3) (by rfl) sc_Profile_greatest.nd (Way.kk_piL (K := K) (pv 1)) (blkOk_by (by kernel_rfl)) (fun _ _ _ _ _ => (pg_name (i := 3) sc_Profile_greatest.nd rfl (Or.inl rfl))) (fun _ _ _ _ _ => (pts_one (PW.pt (pw_and (pt_cmpR (kk_neM T G_Manners_eq (hr.mono (by decide))) (pv 3) (pv 2) (nomark _)) (pw_and1 (pt_val (pe_meth (pv 2) T.cl_Manners T.m_Manners_within G_Manners_within (hr.mono (by decide)) T.B_Manners_within .nil pass0 (pa_cons (pv 3) pa_nil)))))))) (fun _ _ _ _ _ => (pv 3))))))) (fun _ _ _ _ _ => (pv 2)))))), ?_⟩
    refine n_asg (en_fltN (K := K) (P := MAt T.C_Manners) (g := fun i => !cont S i) mAt_mono (en_every ev_c) (Nat.le_of_ble_eq_true rfl) (Nat.lt_of_lt_of_eq (by decide : 2 < 4) rfl) (fun _ => rfl) fun y o H1 X1 ho py => et_test (ev_op (ev_var rfl) (ev_var rfl) (rv_inP (neg := true) py (pAt_mono X1 hv) hz))) fun p H1 n1 X1 h1 => ?_
    have hl : (all8.filter fun i => !cont S i).length ≤ 8 := List.length_filter_le _ all8
    refine n_ret (en_fltL (K := K) (P := MAt T.C_Manners) (g := fun one => ((all8.filter fun i => !cont S i).filter fun o => !decide (o = one) && prt one o).isEmpty) mAt_mono (ev_var rfl) h1 (by omega) (Nat.lt_of_lt_of_eq (by decide : 2 < 4) rfl) (fun _ => rfl) fun y c H2 X2 hc pc => ?_) fun q H2 n2 X2 h2 => kont q H2 (fresh_back X1 n2) (X1.trans X2) h2
    refine et_is (et_not (et_truthL (en_fltL (K := K) (P := MAt T.C_Manners) (g := fun o => !decide (o = c) && prt c o) mAt_mono (ev_var rfl) (h1.mono mAt_mono X2) (by omega) (Nat.lt_of_lt_of_eq (by decide : 3 < 4) rfl) (fun _ => rfl) fun z o H3 X3 ho pz => et_and (et_test (ev_op (ev_var rfl) (ev_var rfl) (rv_neM pz (mAt_mono _ _ _ _ X3 pc)))) fun _ => et_B (ev_with (ev_var rfl) (mAt_mono _ _ _ _ X3 pc) (ev_var rfl) pz)))) (by rw [Bool.not_not])
theorem ok_Profile_iter (T : Txt K mg) : ItFn P w K mg base 1 T.f_Profile_iter T.C_Profile "least_sets" :=
  itFn_of T.F_Profile_iter sc_Profile_iter rfl rfl rfl T.b_iter T.cl_Profile T.na_Profile_least_sets T.B_Profile_iter
end
end K82

namespace K82
open PySem L2 Way Evl
/-- a list or a tuple of sets -/
def SeqM (K : PySem.W.Frag) (C : Addr) (S : List Cd) (v : V) (H : Hp) : Prop := ∃ p xs, v = .ref p ∧ (SqL K H p xs ∨ SqT K H p xs) ∧ Paired (fun x i => MAt C i x H) xs S
theorem seqM_mono {K : PySem.W.Frag} {C : Addr} {S : List Cd} {v : V} {H H' : Hp} (e : Ex H H') (h : SeqM K C S v H) : SeqM K C S v H' := let ⟨p, xs, h1, h2, h3⟩ := h; ⟨p, xs, h1, h2.elim (fun z => .inl (ex_l e z)) (fun z => .inr (ex_t e z)), Paired.mapP h3 fun _ _ q => mAt_mono _ _ _ _ e q⟩
theorem seqM_l {K : PySem.W.Frag} {C : Addr} {S : List Cd} {v : V} {H : Hp} (h : LAt (MAt C) S v H) : SeqM K C S v H := let ⟨p, xs, h1, h2, h3⟩ := h; ⟨p, xs, h1, .inl (sq_of h2), h3⟩
theorem seqM_u {K : PySem.W.Frag} {C : Addr} {S : List Cd} {v : V} {H : Hp} (h : UAt (MAt C) S v H) : SeqM K C S v H := let ⟨p, xs, h1, h2, h3⟩ := h; ⟨p, xs, h1, .inr (st_of h2), h3⟩
section
variable {K : PySem.W.Frag} {σ : L2.St} {H : Hp} {ta te tl tb : TE} {E : XK} {CM CP : Addr} {S S' : List Cd}
theorem prof_core {Q : VK} {H1 : Hp} {v : V} {x dx : Addr} (hs : SeqM K CM S v H1) (hz : S.length ≤ 500) (hx : H1 x = none) (hd : H1 dx = none) (hn : dx ≠ x) (q : ∀ H2, Ex H1 H2 → PAt CP CM (prof S) (.ref x) H2 → Q (.ref x) H2) : spPI K CP CM [.ref x, v] (upd (upd H1 dx (.own x)) x (.ins CP dx [])) (fun v H2 => v = .non ∧ Q (.ref x) H2) E := by
  have ex : Ex H1 (upd (upd H1 dx (.own x)) x (.ins CP dx [])) := fun b o e => (upd_ne (ne_of_none e hx)).trans ((upd_ne (ne_of_none e hd)).trans e)
  obtain ⟨p, xs, rfl, h1, h2⟩ := seqM_mono ex hs
  exact ⟨x, p, dx, xs, S, rfl, h1, h2, hz, upd_same, fun t H' k e1 e2 => ⟨rfl, q H' (fun b o e => k b o (ne_of_none e hx) (ex _ _ e)) ⟨x, dx, t, rfl, e1, e2⟩⟩⟩
theorem ex_prof (h : EvX te σ H (SeqM K CM S)) (hz : S.length ≤ 500) : EvX (tMake CP (spPI K CP CM) [] E (tCons te tNil)) σ H (PAt CP CM (prof S)) := fun H1 e Q q => h H1 e _ fun v H2 e2 hs x dx hx hd hn => prof_core hs hz hx hd hn fun H3 e3 z => q _ H3 (e2.trans e3) z
theorem ex_prof0 {e0 : Addr} (h0 : ∀ H, SqT K H e0 []) : EvX (tMake CP (spPI K CP CM) [.ref e0] E tNil) σ H (PAt CP CM (prof [])) := fun H1 e Q q x dx hx hd hn => prof_core ⟨e0, [], rfl, .inr (h0 _), .nil⟩ (Nat.zero_le _) hx hd hn fun H3 e3 z => q _ H3 e3 z
theorem ex_catU {u v : V} (h : Ev ta σ H u) (hu : UAt (MAt CM) S u H) (h2 : Ev tb σ H v) (hv : UAt (MAt CM) S' v H) (hz : S.length + S'.length ≤ 1000) : EvX (tOp (rCatA K) ta tb) σ H (SeqM K CM (S ++ S')) := fun H1 e Q q =>
  h H1 e _ fun H2 e2 => h2 H2 (e.trans e2) _ fun H3 e3 => by
    have e4 := (e.trans e2).trans e3
    obtain ⟨p, xs, rfl, a1, a2⟩ := hu.mono mAt_mono e4
    obtain ⟨p', ys, rfl, b1, b2⟩ := hv.mono mAt_mono e4
    have l1 := Paired.length a2
    have l2 := Paired.length b2
    refine ⟨p, p', xs, ys, rfl, rfl, st_of a1, st_of b1, sz_of (by omega), fun ex => ?_, fun nx ey => ?_, fun nx ny r hr => ?_⟩
    · subst ex
      cases a2
      exact q _ _ (e2.trans e3) ⟨p', ys, rfl, .inr (st_of b1), b2⟩
    · subst ey
      cases b2
      exact q _ _ (e2.trans e3) ⟨p, xs, rfl, .inr (st_of a1), by rw [List.append_nil]; exact a2⟩
    · exact q _ _ ((e2.trans e3).trans (Ex.new hr)) ⟨r, _, rfl, .inr (st_of upd_same), pr_app (Paired.mapP a2 fun _ _ z => mAt_mono _ _ _ _ (Ex.new hr) z) (Paired.mapP b2 fun _ _ z => mAt_mono _ _ _ _ (Ex.new hr) z)⟩
theorem rv_orM {u v : V} {i j : Cd} {E : XK} {Q : VK} {H1 : Hp} (hu : MAt CM i u H1) (hv : MAt CM j v H1) (q : ∀ w H2, Ex H1 H2 → MAt CM (orI i j) w H2 → Q w H2) : rBinO CM (spOr CM) E u v H1 Q := by
  obtain ⟨a, dx, t, rfl, ha, _⟩ := id hu
  obtain ⟨b, dy, t', rfl, hb, _⟩ := id hv
  exact ⟨a, b, dx, dy, _, _, rfl, rfl, ha, hb, _, _, i, j, rfl, hu, hv, q⟩
theorem ex_orM {i j : Cd} (h : EvX ta σ H (MAt CM i)) (h2 : EvX tb σ H (MAt CM j)) : EvX (tOp (rBinO CM (spOr CM) E) ta tb) σ H (MAt CM (orI i j)) := fun H1 e Q q => h H1 e _ fun u H2 e2 hu => h2 H2 (e.trans e2) _ fun v H3 e3 hv => rv_orM (mAt_mono _ _ _ _ e3 hu) hv fun w H4 e4 hw => q w H4 ((e2.trans e3).trans e4) hw
end
def RP (CP CM : Addr) : Addr → V → Hp → Bool → Prop := fun a y H b => ∃ S, PAt CP CM S (.ref a) H ∧ ((∃ S', PAt CP CM S' y H ∧ b = decide (S = S')) ∨ ((∃ p xs, y = .ref p ∧ (H p = some (.tup xs) ∨ H p = some (.lst xs))) ∧ b = false))
def spPOr (CP CM : Addr) : Sp := fun vs H Q _ => ∃ u v S S', vs = [u, v] ∧ PAt CP CM S u H ∧ S.length ≤ 20 ∧ PAt CP CM S' v H ∧ S'.length ≤ 20 ∧ ∀ w H', Ex H H' → PAt CP CM (prof (S ++ S')) w H' → Q w H'
def spPAnd (CP CM : Addr) : Sp := fun vs H Q _ => ∃ u v S S', vs = [u, v] ∧ PAt CP CM S u H ∧ S.length ≤ 20 ∧ PAt CP CM S' v H ∧ S'.length ≤ 20 ∧ ∀ w H', Ex H H' → PAt CP CM (prof (S.flatMap fun a => S'.map (orI a))) w H' → Q w H'
def eqAt (S S' : List Cd) (k : Nat) : Bool := match S[k]?, S'[k]? with | some s, some t => decide (s = t) | _, _ => true
theorem eq_all (S S' : List Cd) : ((List.range (min S.length S'.length)).all (eqAt S S') && S.length == S'.length) = decide (S = S') := by
  rw [Bool.eq_iff_iff, Bool.and_eq_true, List.all_eq_true, beq_iff_eq, decide_eq_true_eq]
  constructor
  · rintro ⟨h1, h2⟩
    refine List.ext_getElem h2 fun k k1 k2 => ?_
    have := h1 k (List.mem_range.mpr (by omega))
    unfold eqAt at this
    rw [List.getElem?_eq_getElem k1, List.getElem?_eq_getElem k2] at this
    exact of_decide_eq_true this
  · rintro rfl
    refine ⟨fun k hk => ?_, rfl⟩
    unfold eqAt
    cases S[k]? <;> simp
theorem mro_tup : ∃ l, fastBuiltinMro "tuple" = some l ∧ ∀ a, l.contains (.ref a) = false := ⟨[.type "tuple", .type "object"], by decide +kernel, fun a => rfl⟩
theorem mro_lst : ∃ l, fastBuiltinMro "list" = some l ∧ ∀ a, l.contains (.ref a) = false := ⟨[.type "list", .type "object"], by decide +kernel, fun a => rfl⟩
section
variable {P : Program} {w : World} {K : PySem.W.Frag} {mg : Str → Option Value} {base : Heap}
theorem ok_Profile_eq (T : Txt K mg) : FnOk P w K mg base CX0 3 T.f_Profile_eq T.d_Profile_eq P_Profile_eq (spEqB (RP T.C_Profile T.C_Manners)) := by
  have G_Manners_eq := ok_Manners_eq (P := P) (w := w) (base := base) T
  refine T.F_Profile_eq.ok sc_Profile_eq (fun vs H Q E h => ?_) (fun cdv A outer s H vs Q E hr h => ?_)
  · obtain ⟨a, y, b, rfl, _⟩ := h
    rfl
  · obtain ⟨a, y, b, rfl, ⟨S, ⟨x, dx, t, ex, hx, ⟨t1, xs, et, ht, hp⟩⟩, hy⟩, kont⟩ := h
    cases ex
    cases et
    refine ⟨_, (pss_one (ps_ret (pe_and (pe_callB call_isi (by rfl) T.b_isinstance (by decide +kernel) (pa_cons (pv 1) (pa_cons (pe_glob (v := .ref T.C_Profile) (by rfl) T.g_Profile rfl) pa_nil))) (pe_one (pe_cmpR (kk_eqT T G_Manners_eq (hr.mono (by decide))) (pe_fld (pv 0) rfl) (pe_fld (pv 1) rfl) (nomark _)))))), ?_⟩
    rcases hy with ⟨S', ⟨x', dx', t', rfl, hx', ⟨t2, xs', et', ht', hp'⟩⟩, rfl⟩ | ⟨⟨p, zs, rfl, hpz⟩, rfl⟩
    · cases et'
      refine s_ret (v := .bl (decide (S = S'))) (ev_is (ev_andV (b := decide (S = S')) (ev_cb (ea_cons (ev_var rfl) (ea_cons ev_c ea_nil)) (rc_isi (.own _) (fun H1 X1 => T.ic_Profile.ty T.cl_Profile (X1 _ _ hx')) kit_self)) fun _ => ev_op (ev_fld (ev_var rfl) hx T.cl_Profile T.na_Profile_least_sets rfl) (ev_fld (ev_var rfl) hx' T.cl_Profile T.na_Profile_least_sets rfl) (fun H1 X1 Q' q => ?_)) (by rw [Bool.true_and])) fun H1 X1 => kont H1 X1
      refine ⟨_, ⟨t, t', xs, xs', eqAt S S', rfl, rfl, st_of (X1 _ _ ht), st_of (X1 _ _ ht'), fun k u v hu hv => ?_, rfl⟩, fun H2 e2 => ?_⟩
      · obtain ⟨c, hc, pc⟩ := pr_at hp hu
        obtain ⟨c', hc', pc'⟩ := pr_at hp' hv
        refine ⟨c, c', mAt_mono _ _ _ _ X1 pc, mAt_mono _ _ _ _ X1 pc', ?_⟩
        unfold eqAt
        rw [hc, hc']
      · have l1 : xs.length = S.length := Paired.length hp
        have l2 : xs'.length = S'.length := Paired.length hp'
        rw [l1, l2, eq_all]
        exact q H2 e2
    · have kn : ∃ Tn, (∀ H1, Ex H H1 → TyX K H1 (.ref p) (.type Tn)) ∧ PySem.W.kitOne K (.type Tn) (.ref T.C_Profile) = some false := by
        rcases hpz with hpz | hpz
        · obtain ⟨l, e1, e2⟩ := mro_tup
          exact ⟨"tuple", ty_tup hpz, kit_no T.ic_Profile T.cl_Profile e1 e2⟩
        · obtain ⟨l, e1, e2⟩ := mro_lst
          exact ⟨"list", ty_lst hpz, kit_no T.ic_Profile T.cl_Profile e1 e2⟩
      obtain ⟨Tn, ty, kn⟩ := kn
      exact s_ret (v := .bl false) (ev_is (ev_andV (a := false) (b := true) (ev_cb (ea_cons (ev_var rfl) (ea_cons ev_c ea_nil)) (rc_isi (.own _) ty kn)) fun z => nomatch z) rfl) fun H1 X1 => kont H1 X1
theorem bdP1 (T : Txt K mg) : ∃ ds, Vals ([] : List V) ds ∧ Binds K T.d_Profile_init P_Profile_init ds :=
  T.F_Profile_init.binds1 2 1 (by simp) rfl fun T' kV doc pm an cdv ct us its l1 l2 => (match us, its, l1, l2 with | [_, _], [_], _, _ => ⟨_, rfl, rfl⟩)
theorem bdP0 (T : Txt K mg) : ∃ ds, Vals ([.ref T.e0_Profile_init] : List V) ds ∧ Binds K T.d_Profile_init P_Profile_init ds :=
  T.F_Profile_init.binds1 1 0 (by simp) rfl fun T' kV doc pm an cdv ct us its l1 l2 => (match us, its, l1, l2 with | [_], [_], _, _ => ⟨_, rfl, rfl⟩)
theorem ok_Profile_or (T : Txt K mg) : FnOk P w K mg base CX0 6 T.f_Profile_or T.d_Profile_or P_Profile_or (spPOr T.C_Profile T.C_Manners) := by
  have G_Profile_init := ok_Profile_init (P := P) (w := w) (base := base) T
  obtain ⟨ds1, bd_Profile_init_1⟩ := bdP1 T
  refine T.F_Profile_or.ok sc_Profile_or (fun vs H Q E h => ?_) (fun cdv A outer s H vs Q E hr h => ?_)
  · obtain ⟨u, v, S, S', rfl, _⟩ := h
    rfl
  · obtain ⟨u, v, S, S', rfl, ⟨x, dx, t, rfl, hx, hu⟩, hz, ⟨x', dx', t', rfl, hx', hv⟩, hz', kont⟩ := h
    refine ⟨_, (pss_one (ps_ret (pe_make T.M_Profile G_Profile_init (hr.mono (by decide)) (by rfl) T.g_Profile bd_Profile_init_1.2 bd_Profile_init_1.1 pass0 (pa_cons (pe_op op_catA (pe_fld (pv 0) rfl) (pe_fld (pv 1) rfl)) pa_nil)))), ?_⟩
    exact x_ret (ex_prof (ex_catU (ev_fld (ev_var rfl) hx T.cl_Profile T.na_Profile_least_sets rfl) hu (ev_fld (ev_var rfl) hx' T.cl_Profile T.na_Profile_least_sets rfl) hv (by omega)) (by rw [List.length_append]; omega)) fun w H1 X1 hw => kont w H1 X1 hw
theorem ok_Profile_and (T : Txt K mg) : FnOk P w K mg base CX0 6 T.f_Profile_and T.d_Profile_and P_Profile_and (spPAnd T.C_Profile T.C_Manners) := by
  have G_Profile_init := ok_Profile_init (P := P) (w := w) (base := base) T
  have G_Manners_or := ok_Manners_or (P := P) (w := w) (base := base) T
  obtain ⟨ds1, bd_Profile_init_1⟩ := bdP1 T
  refine T.F_Profile_and.ok sc_Profile_and (fun vs H Q E h => ?_) (fun cdv A outer s H vs Q E hr h => ?_)
  · obtain ⟨u, v, S, S', rfl, _⟩ := h
    rfl
  · obtain ⟨u, v, S, S', rfl, ⟨x, dx, t, rfl, hx, ⟨t1, xs, et, ht, hp⟩⟩, hz, ⟨x', dx', t', rfl, hx', ⟨t2, xs', et', ht', hp'⟩⟩, hz', kont⟩ := h
    cases et
    cases et'
    refine ⟨_, (pss_one (ps_ret (pe_make T.M_Profile G_Profile_init (hr.mono (by decide)) (by rfl) T.g_Profile bd_Profile_init_1.2 bd_Profile_init_1.1 pass0 (pa_cons (pe_lc2 (own := [("one", 2), ("two", 3)]) (vs1 := [3]) (g := gName 2) (g1 := gName 3) (by rfl) sc_Profile_and.nd (pi_tup (pe_fld (pv 0) rfl)) (blkOk_by (own := [("one", 2), ("two", 3)]) (N := N_Profile_and) (sc := defScope s_Profile_and) (by decide +kernel)) (by decide) (fun _ _ _ _ _ => (pg_name (i := 2) sc_Profile_and.nd rfl (Or.inl rfl))) (fun _ _ _ _ _ => pts_nil) (fun _ _ _ _ _ => (Way.kk_piT (K := K) (Way.kk_fld (K := K) (pv 1) rfl))) (fun _ _ _ _ _ => (pg_name (i := 3) sc_Profile_and.nd rfl (Or.inl rfl))) (fun _ _ _ _ _ => pts_nil) (fun _ _ _ _ _ => (pe_op (Way.op_binO G_Manners_or T.ic_Manners.sf T.m_Manners_or.at_ T.m_Manners_or.fn T.B_Manners_or pass0 (hr.mono (by decide))) (pv 2) (pv 3)))) pa_nil)))), ?_⟩
    have hlen : (S.flatMap fun a => S'.map (orI a)).length ≤ 400 := by
      have : ∀ T : List Cd, (T.flatMap fun a => S'.map (orI a)).length = T.length * S'.length := fun T => by
        induction T with
        | nil => simp
        | cons a r ih => rw [List.flatMap_cons, List.length_append, ih, List.length_map, List.length_cons, Nat.add_mul]; omega
      rw [this]
      exact Nat.le_trans (Nat.mul_le_mul hz hz') (by decide)
    exact x_ret (ex_prof ((en_lc2T (K := K) (P := MAt T.C_Manners) (R := MAt T.C_Manners) (c := orI) mAt_mono mAt_stay (ev_fld (ev_var rfl) hx T.cl_Profile T.na_Profile_least_sets rfl) (st_of ht) hp (st_of ht') hp' (by omega) (by omega) (fun _ => rfl) (fun _ _ => rfl) (fun y H1 X1 => ev_fld (ev_var rfl) (X1 _ _ hx') T.cl_Profile T.na_Profile_least_sets rfl) fun y z a b H1 X1 py pz => ex_orM (EvX.of (ev_var rfl) fun H2 X2 => mAt_mono _ _ _ _ X2 py) (EvX.of (ev_var rfl) fun H2 X2 => mAt_mono _ _ _ _ X2 pz)).x.to fun v H1 _ z => seqM_l z) (by omega)) fun w H1 X1 hw => kont w H1 X1 hw
end
end K82

namespace K82
open PySem L2 Way Evl
def BagAt (H : Hp) (p : Addr) : Prop := ∃ n m : Int, H p = some (.lst [.int n, .int m]) ∧ 0 ≤ n ∧ 0 ≤ m ∧ m < 2147483648
theorem bag_mono {H H' : Hp} {p : Addr} (e : Ex H H') (h : BagAt H p) : BagAt H' p := let ⟨n, m, h1, h2⟩ := h; ⟨n, m, e _ _ h1, h2⟩
def spBag (K : PySem.W.Frag) : Sp := fun vs H Q _ => ∃ (a : Addr) (ns : List Int) (k : Int), vs = [.ref a, .int k] ∧ SqL K H a (ns.map V.int) ∧ ns.length ≤ 63 ∧ 0 ≤ k ∧ k ≤ 10 ∧ ∀ p H', H p = none → Ex H H' → BagAt H' p → Q (.ref p) H'
def spTake : Sp := fun vs H Q _ => ∃ (p : Addr) (m : Int), vs = [.ref p, .int m] ∧ BagAt H p ∧ 0 < m ∧ m ≤ 1000 ∧ ∀ d H', Kp p H H' → BagAt H' p → 0 ≤ d → d < m → Q (.int d) H'
def spOf : Sp := fun vs H Q _ => ∃ (p l : Addr) (xs : List V), vs = [.ref p, .ref l] ∧ BagAt H p ∧ l ≠ p ∧ H l = some (.lst xs) ∧ 0 < xs.length ∧ xs.length ≤ 100 ∧ ∀ v H', v ∈ xs → Kp p H H' → BagAt H' p → Q v H'
def spEight : Sp := fun vs H Q _ => vs = [] ∧ ∀ p H', H p = none → Ex H H' → LAt TAt all8 (.ref p) H' → Q (.ref p) H'
def spMan (C : Addr) : Sp := fun vs H Q _ => ∃ v i, vs = [v] ∧ TAt i v H ∧ ∀ u H', Ex H H' → MAt C i u H' → Q u H'
def spIs : Sp := fun vs H Q _ => (∃ a b : Bool, vs = [.bl a, .bl b] ∧ ∀ H', Ex H H' → Q (.bl (decide (a = b))) H') ∨ ∃ a b : Int, vs = [.int a, .int b] ∧ ∀ H', Ex H H' → Q (.bl (decide (a = b))) H'
def spPart : Sp := fun vs H Q _ => ∃ u v i j, vs = [u, v] ∧ TAt i u H ∧ TAt j v H ∧ ∀ H', Ex H H' → Q (.bl (prt i j)) H'
theorem at_int {l : List Int} {i : Nat} {y : V} (e : (l.map V.int)[i]? = some y) : ∃ b, l[i]? = some b ∧ y = V.int b := by
  rw [List.getElem?_map] at e
  cases q : l[i]? with
  | none => rw [q] at e; cases e
  | some b => rw [q] at e; exact ⟨b, rfl, (Option.some.inj e).symm⟩
theorem rc_i {H : Hp} {i : Int} : RC (fun xs H Q => (∃ i, xs = [V.int i] ∧ Q (.int i) H) ∨ ∃ b, xs = [V.bl b] ∧ Q (.int (if b then 1 else 0)) H) [.int i] H (.int i) := fun H2 _ _ q => .inl ⟨_, rfl, q H2 (Ex.refl H2)⟩
section
variable {P : Program} {w : World} {K : PySem.W.Frag} {mg : Str → Option Value} {base : Heap}
theorem ok_take (T : Txt K mg) : FnOk P w K mg base CX0 1 T.f_take T.d_take P_take spTake := by
  refine T.F_take.ok sc_take (fun vs H Q E h => ?_) (fun cdv A outer s H vs Q E hr h => ?_)
  · obtain ⟨p, m, rfl, _⟩ := h
    rfl
  · obtain ⟨p, b, rfl, ⟨n, m, hp, n0, m0, m1⟩, b0, b1, kont⟩ := h
    refine ⟨_, (pss_cons (ps_if (pt_cmpR op_gt (pe_ix ix_list (pv 0) pe_int (fun _ _ => rfl)) pe_int (nomark _)) (pss_cons (ps_set (i := 2) sc_take.nd rfl (Or.inl rfl) (pe_op op_mod (pe_callTy call_int1 (by rfl) T.b_int (by decide +kernel) (pa_cons (pe_ix ix_list (pv 0) pe_int (fun _ _ => rfl)) pa_nil)) (pv 1)))
      (pss_cons (ps_asg (pe_op op_fdiv (pe_ix ix_list (pv 0) pe_int (fun _ _ => rfl)) (pv 1)) (pg_sub (pv 0) pe_int set_list))
      (pss_one (ps_ret (pv 2))))) pss_nil)
      (pss_cons (ps_asg (pe_op op_mod (pe_callTy call_int1 (by rfl) T.b_int (by decide +kernel) (pa_cons (pe_op op_add (pe_op op_mul (pe_ix ix_list (pv 0) pe_int (fun _ _ => rfl)) pe_int) pe_int) pa_nil)) pe_int) (pg_sub (pv 0) pe_int set_list))
      (pss_one (ps_ret (pe_op op_mod (pe_op op_fdiv (pe_op op_mod (pe_callTy call_int1 (by rfl) T.b_int (by decide +kernel) (pa_cons (pe_op op_mul (pe_op op_fdiv (pe_ix ix_list (pv 0) pe_int (fun _ _ => rfl)) pe_int) pe_int) pa_nil)) pe_int) pe_int) (pv 1)))))), ?_⟩
    refine q_when (et_test (ev_op (ev_op (ev_var rfl) ev_c (rv_ixL (v := .int n) (sq_of hp) rfl)) ev_c rv_I0)) (fun q H1 X1 => ?_) (fun q H1 X1 => ?_)
    · have hp1 := X1 _ _ hp
      refine q_asg (v := .int (n % b)) (ev_op (ev_cb (ea_cons (ev_op (ev_var rfl) ev_c (rv_ixL (v := .int n) (sq_of hp1) rfl)) ea_nil) rc_i) (ev_var rfl) (rv_I b0)) fun H2 X2 => ?_
      have hp2 := X2 _ _ hp1
      refine q_setL (j := 0) hp2 (v := .int (n / b)) (ev_op (ev_op (ev_var rfl) ev_c (rv_ixL (v := .int n) (sq_of hp2) rfl)) (ev_var rfl) (rv_I ⟨b0, by omega⟩)) (ev_var rfl) ev_c (by decide : 0 < 2) fun H3 X3 => ?_
      refine s_ret (ev_var rfl) fun H4 X4 => ?_
      exact kont _ _ (Kp.trans (Kp.set (Kp.of ((X1.trans X2).trans X3))) (Kp.of X4)) ⟨_, _, X4 _ _ upd_same, Int.ediv_nonneg n0 (by omega), m0, m1⟩ (Int.emod_nonneg _ (by omega)) (Int.emod_lt_of_pos _ b0)
    · have hp1 := X1 _ _ hp
      refine q_setL (j := 1) hp1 (v := .int ((m * 59359 + 6339) % 2147483587)) (ev_op (ev_cb (ea_cons (ev_op (ev_op (ev_op (ev_var rfl) ev_c (rv_ixL (v := .int m) (sq_of hp1) rfl)) ev_c (rv_I (.inr (by decide)))) ev_c rv_I0) ea_nil) rc_i) ev_c (rv_I (by decide : (0 : Int) < 2147483587))) (ev_var rfl) ev_c (by decide : 1 < 2) fun H2 X2 => ?_
      have f0 : 0 ≤ (m * 59359 + 6339) % 2147483587 := Int.emod_nonneg _ (by decide)
      have f1 : (m * 59359 + 6339) % 2147483587 < 2147483587 := Int.emod_lt_of_pos _ (by decide)
      revert f0 f1
      generalize (m * 59359 + 6339) % 2147483587 = f
      intro f0 f1
      have hp2 : (upd H2 p (.lst ([V.int n, V.int m].set 1 (.int f)))) p = some (.lst [.int n, .int f]) := upd_same
      refine s_ret (v := .int (f / 19 * 39161 % 2147483629 / 64 % b)) (ev_op (ev_op (ev_op (ev_cb (ea_cons (ev_op (ev_op (ev_op (ev_var rfl) ev_c (rv_ixL (v := .int f) (sq_of hp2) rfl)) ev_c (rv_I ⟨by decide, by decide⟩)) ev_c (rv_I (.inr (by decide)))) ea_nil) rc_i) ev_c (rv_I (by decide : (0 : Int) < 2147483629))) ev_c (rv_I ⟨by decide, by decide⟩)) (ev_var rfl) (rv_I b0)) fun H3 X3 => ?_
      exact kont _ _ (Kp.trans (Kp.set (Kp.of (X1.trans X2))) (Kp.of X3)) ⟨_, _, X3 _ _ hp2, n0, f0, by omega⟩ (Int.emod_nonneg _ (by omega)) (Int.emod_lt_of_pos _ b0)
theorem ok_of (T : Txt K mg) : FnOk P w K mg base CX0 2 T.f_of T.d_of P_of spOf := by
  have G_take := ok_take (P := P) (w := w) (base := base) T
  refine T.F_of.ok sc_of (fun vs H Q E h => ?_) (fun cdv A outer s H vs Q E hr h => ?_)
  · obtain ⟨p, l, xs, rfl, _⟩ := h
    rfl
  · obtain ⟨p, l, xs, rfl, hb, hlp, hl, h0, h1, kont⟩ := h
    refine ⟨_, (pss_one (ps_ret (pe_ix ix_list (pv 1) (pe_call G_take hr (by rfl) T.g_take T.F_take.kp T.B_take .nil pass0 (pa_cons (pv 0) (pa_cons (pe_callB call_len_seq (by rfl) T.b_len (by decide +kernel) (pa_cons (pv 1) pa_nil)) pa_nil))) (fun _ _ => rfl)))), ?_⟩
    refine ⟨_, rfl, _, rfl, ev_cb (ea_cons (ev_var rfl) ea_nil) (rc_lenL (K := K) (sq_of hl)) H (Ex.refl H) _ fun H1 X1 => ⟨p, _, rfl, bag_mono X1 hb, by omega, by omega, fun d H2 K2 b2 d0 d1 => ?_⟩⟩
    have hd : d.toNat < xs.length := by omega
    refine ⟨l, _, _, _, rfl, rfl, SqL.of (K2 _ _ hlp (X1 _ _ hl)), at_of (j := d.toNat) (by omega) (List.getElem?_eq_getElem hd), ?_⟩
    exact kont _ _ (List.getElem_mem hd) (Kp.trans (Kp.of X1) K2) b2
theorem ET {σ : L2.St} {H : Hp} {ta tr : TA} {i : Cd} {S : List Cd} (h : EvA ta σ H (sV i)) (r : EvP tr σ H TAt S) : EvP (tCons (tTup ta) tr) σ H TAt (i :: S) := evp_cons tAt_mono (ex_u (eu_tup h (Nat.le_trans (sV_len i) (by decide))) fun p H1 h => ⟨p, rfl, h⟩) r
theorem ok_eight (T : Txt K mg) : FnOk P w K mg base CX0 1 T.f_eight T.d_eight P_eight spEight := by
  refine T.F_eight.ok sc_eight (fun vs H Q E h => ?_) (fun cdv A outer s H vs Q E hr h => ?_)
  · rw [h.1]; rfl
  · obtain ⟨rfl, kont⟩ := h
    refine ⟨_, (pss_one (ps_ret (pe_lst (pa_cons (pe_tup pa_nil) (pa_cons (pe_tup (pa_cons pe_str pa_nil)) (pa_cons (pe_tup (pa_cons pe_str pa_nil)) (pa_cons (pe_tup (pa_cons pe_str pa_nil)) (pa_cons (pe_tup (pa_cons pe_str (pa_cons pe_str pa_nil))) (pa_cons (pe_tup (pa_cons pe_str (pa_cons pe_str pa_nil))) (pa_cons (pe_tup (pa_cons pe_str (pa_cons pe_str pa_nil))) (pa_cons (pe_tup (pa_cons pe_str (pa_cons pe_str (pa_cons pe_str pa_nil)))) pa_nil))))))))))), ?_⟩
    exact n_ret (en_lstP (P := TAt) (S := all8) tAt_mono (ET (ea_nil) (ET (ea_cons ev_c ea_nil) (ET (ea_cons ev_c ea_nil) (ET (ea_cons ev_c ea_nil) (ET (ea_cons ev_c (ea_cons ev_c ea_nil)) (ET (ea_cons ev_c (ea_cons ev_c ea_nil)) (ET (ea_cons ev_c (ea_cons ev_c ea_nil)) (ET (ea_cons ev_c (ea_cons ev_c (ea_cons ev_c ea_nil))) evp_nil)))))))) (Nat.le_of_ble_eq_true rfl)) kont
/-! manners of names -/
def sg (x : Str) : Cd := if x = "ask" then 1 else if x = "old" then 2 else 3
def pre (i : Cd) (k : Nat) : Cd := ((nm i).take k).foldl (fun c x => orI c (sg x)) 0
theorem pre_len : ∀ i : Cd, pre i (nm i).length = i := by decide +kernel
theorem sg_nm : ∀ i : Cd, ((nm i).all fun x => decide (sV (sg x) = [V.str x])) = true := by decide +kernel
theorem pre_succ {i : Cd} {k : Nat} {x : Str} (h : (nm i)[k]? = some x) : pre i (k + 1) = orI (pre i k) (sg x) := by
  unfold pre
  have hk : k < (nm i).length := (List.getElem?_eq_some_iff.mp h).1
  rw [List.take_succ_eq_append_getElem hk, List.foldl_append, (List.getElem?_eq_some_iff.mp h).2]
  rfl
theorem at_sV {i : Cd} {k : Nat} {y : V} (e : (sV i)[k]? = some y) : ∃ x, (nm i)[k]? = some x ∧ y = V.str x := by
  unfold sV at e
  rw [List.getElem?_map] at e
  cases q : (nm i)[k]? with
  | none => rw [q] at e; cases e
  | some b => rw [q] at e; exact ⟨b, rfl, (Option.some.inj e).symm⟩
theorem ok_manners (T : Txt K mg) : FnOk P w K mg base CX0 4 T.f_manners T.d_manners P_manners (spMan T.C_Manners) := by
  have G_Manners_init := ok_Manners_init (P := P) (w := w) (base := base) T
  have G_Manners_or := ok_Manners_or (P := P) (w := w) (base := base) T
  refine T.F_manners.ok sc_manners (fun vs H Q E h => ?_) (fun cdv A outer s H vs Q E hr h => ?_)
  · obtain ⟨v, i, rfl, _⟩ := h
    rfl
  · obtain ⟨v, i, rfl, ⟨t, rfl, ht⟩, kont⟩ := h
    refine ⟨_, (pss_cons (ps_set (i := 1) sc_manners.nd rfl (Or.inl rfl) (Way.pe_makeR0 T.M_Manners G_Manners_init (hr.mono (by decide)) (by rfl) T.g_Manners pass0))
      (pss_cons (ps_for PassesOwn.never rfl (pi_tup (pv 0)) (pg_name (i := 2) sc_manners.nd rfl (Or.inl rfl)) (pss_one (ps_set (i := 1) sc_manners.nd rfl (Or.inl rfl) (pe_op (Way.op_binO G_Manners_or T.ic_Manners.sf T.m_Manners_or.at_ T.m_Manners_or.fn T.B_Manners_or pass0 (hr.mono (by decide))) (pv 1) (StX.pe_makeR T.M_Manners G_Manners_init (hr.mono (by decide)) (by rfl) T.g_Manners pass0 (pa_cons (pv 2) pa_nil))))))
      (pss_one (ps_ret (pv 1))))), ?_⟩
    refine x_asg (ex_makeR (i := 0) ea_nil) fun u H1 X1 hu => ?_
    refine q_forT (K := K) (ev_var rfl) (st_of (X1 _ _ ht)) (fun k σ H' => ∃ v1 v2, σ = [some (.ref t), some v1, v2] ∧ Ex H H' ∧ MAt T.C_Manners (pre i k) v1 H') (fun H2 X2 => ⟨u, none, rfl, X1.trans X2, mAt_mono _ _ _ _ X2 hu⟩) (fun k σ' H' _ ⟨_, _, _, X, _⟩ => st_of (X _ _ ht)) ?_ ?_
    · rintro k y σ' H' hy ⟨v1, v2, rfl, X, hv⟩
      obtain ⟨x, hx, rfl⟩ := at_sV hy
      have sgx : sV (sg x) = [V.str x] := of_decide_eq_true (List.all_eq_true.mp (sg_nm i) x (List.mem_of_getElem? hx))
      refine (ex_orM (EvX.of (ev_var rfl) fun H2 X2 => mAt_mono _ _ _ _ X2 hv) (ex_makeR (i := sg x) (by rw [sgx]; exact ea_cons (ev_var rfl) ea_nil)) : EvX _ _ H' _) H' (Ex.refl H') _ fun u H2 X2 hu => ⟨u, _, rfl, X.trans X2, ?_⟩
      rw [pre_succ hx]
      exact hu
    · rintro σ' H' ⟨v1, v2, rfl, X, hv⟩
      have e : (sV i).length = (nm i).length := List.length_map ..
      rw [e, pre_len] at hv
      exact s_ret (ev_var rfl) fun H2 X2 => kont v1 H2 (X.trans X2) (mAt_mono _ _ _ _ X2 hv)
theorem ok_is (T : Txt K mg) : FnOk P w K mg base CX0 1 T.f_is T.d_is P_is spIs := by
  refine T.F_is.ok sc_is (fun vs H Q E h => ?_) (fun cdv A outer s H vs Q E hr h => ?_)
  · rcases h with ⟨a, b, rfl, _⟩ | ⟨a, b, rfl, _⟩ <;> rfl
  · rcases h with ⟨a, b, rfl, kont⟩ | ⟨a, b, rfl, kont⟩
    · refine ⟨_, (pss_cons (ps_if (pt_val (pe_callB call_isi (by rfl) T.b_isinstance (by decide +kernel) (pa_cons (pv 1) (pa_cons (pe_bltn (v := .ty "bool") (by rfl) T.b_bool (by decide +kernel) rfl) pa_nil)))) (pss_one (ps_ret (pe_and (pe_callB call_isi (by rfl) T.b_isinstance (by decide +kernel) (pa_cons (pv 0) (pa_cons (pe_bltn (v := .ty "bool") (by rfl) T.b_bool (by decide +kernel) rfl) pa_nil))) (pe_one (pe_cmpR op_eq (pv 0) (pv 1) (nomark _)))))) pss_nil)
      (pss_one (ps_ret (pe_and (pe_callB call_isi (by rfl) T.b_isinstance (by decide +kernel) (pa_cons (pv 0) (pa_cons (pe_bltn (v := .ty "int") (by rfl) T.b_int (by decide +kernel) rfl) pa_nil))) (pe_and (pe_not (pe_callB call_isi (by rfl) T.b_isinstance (by decide +kernel) (pa_cons (pv 0) (pa_cons (pe_bltn (v := .ty "bool") (by rfl) T.b_bool (by decide +kernel) rfl) pa_nil)))) (pe_one (pe_cmpR op_eq (pv 0) (pv 1) (nomark _)))))))), ?_⟩
      refine q_when (b := true) (et_B (ev_cb (ea_cons (ev_var rfl) (ea_cons ev_c ea_nil)) (rc_isi (.ty _) ty_bl (kit_ty (r := true) (by decide +kernel))))) (fun _ H1 X1 => ?_) (fun q => nomatch q)
      refine s_ret (v := .bl (decide (a = b))) (ev_is (ev_andV (ev_cb (ea_cons (ev_var rfl) (ea_cons ev_c ea_nil)) (rc_isi (.ty _) ty_bl (kit_ty (r := true) (by decide +kernel)))) fun _ => ev_op (ev_var rfl) (ev_var rfl) (rv_eq rfl)) (by simp)) fun H2 X2 => kont H2 (X1.trans X2)
    · refine ⟨_, (pss_cons (ps_if (pt_val (pe_callB call_isi (by rfl) T.b_isinstance (by decide +kernel) (pa_cons (pv 1) (pa_cons (pe_bltn (v := .ty "bool") (by rfl) T.b_bool (by decide +kernel) rfl) pa_nil)))) (pss_one (ps_ret (pe_and (pe_callB call_isi (by rfl) T.b_isinstance (by decide +kernel) (pa_cons (pv 0) (pa_cons (pe_bltn (v := .ty "bool") (by rfl) T.b_bool (by decide +kernel) rfl) pa_nil))) (pe_one (pe_cmpR op_eq (pv 0) (pv 1) (nomark _)))))) pss_nil)
      (pss_one (ps_ret (pe_and (pe_callB call_isi (by rfl) T.b_isinstance (by decide +kernel) (pa_cons (pv 0) (pa_cons (pe_bltn (v := .ty "int") (by rfl) T.b_int (by decide +kernel) rfl) pa_nil))) (pe_and (pe_not (pe_callB call_isi (by rfl) T.b_isinstance (by decide +kernel) (pa_cons (pv 0) (pa_cons (pe_bltn (v := .ty "bool") (by rfl) T.b_bool (by decide +kernel) rfl) pa_nil)))) (pe_one (pe_cmpR op_eq (pv 0) (pv 1) (nomark _)))))))), ?_⟩
      refine q_when (b := false) (et_B (ev_cb (ea_cons (ev_var rfl) (ea_cons ev_c ea_nil)) (rc_isi (.ty _) ty_int (kit_ty (r := false) (by decide +kernel))))) (fun q => nomatch q) (fun _ H1 X1 => ?_)
      refine s_ret (v := .bl (decide (a = b))) (ev_is (ev_andV (ev_cb (ea_cons (ev_var rfl) (ea_cons ev_c ea_nil)) (rc_isi (.ty _) ty_int (kit_ty (r := true) (by decide +kernel)))) fun _ => ev_andV (ev_notV (ev_cb (ea_cons (ev_var rfl) (ea_cons ev_c ea_nil)) (rc_isi (.ty _) ty_int (kit_ty (r := false) (by decide +kernel))))) fun _ => ev_op (ev_var rfl) (ev_var rfl) (rv_eq rfl)) (by simp)) fun H2 X2 => kont H2 (X1.trans X2)
end
end K82

namespace K82
open PySem L2 Way Evl
section
variable {K : PySem.W.Frag} {σ : L2.St} {H : Hp} {te : TE} {D : Ends} {tz tu : TS}
theorem q_enumN {xs : List V} {i j : Nat} (h : EvL te σ H xs) (Pv : Addr → Nat → L2.St → Hp → Prop) (h0 : ∀ p H1, H p = none → Ex H H1 → H1 p = some (.lst xs) → Pv p 0 σ H1) (hl : ∀ p k σ' H', Pv p k σ' H' → H' p = some (.lst xs))
    (hs : ∀ p k y T' σ' H', xs[k]? = some y → Pv p k σ' H' → H' T' = none → tu { D with nx := Pv p (k + 1), ct := Pv p (k + 1), bk := tz D } ((σ'.set i (some (.int (k : Nat)))).set j (some y)) (upd H' T' (.tup [.int (k : Nat), y]))) (hd : ∀ p σ' H', Pv p xs.length σ' H' → tz D σ' H') :
    tSeq (tFor (iEnum K (tCons te tNil)) (gTup K 2 (gCons (gName i) (gCons (gName j) gNil))) tu) tz D σ H :=
  h H (Ex.refl H) _ fun p H1 hn e h1 => ⟨p, xs, rfl, sq_of h1, for_it (D := { D with nx := tz D }) walk_enum (Pv p) (h0 p H1 hn e h1) (fun k σ' H' _ q => sq_of (hl p k σ' H' q)) (fun k x σ' H' H'' hk q ⟨T', x1, y1, ex, hT, eH, e1, e2⟩ => by
    subst ex
    subst eH
    cases e1
    exact ⟨T', _, rfl, SqT.of upd_same, rfl, _, _, rfl, _, _, rfl, rfl, hs p k y1 T' σ' H' e2 q hT⟩) (fun σ' H' q => hd p σ' H' q)⟩
end
theorem mem_cut {xs : List V} {lo hi : Option Int} {y : V} (h : y ∈ cutV xs lo hi) : y ∈ xs := by
  unfold cutV at h
  exact List.mem_of_mem_drop (List.mem_of_mem_take h)
section
variable {P : Program} {w : World} {K : PySem.W.Frag} {mg : Str → Option Value} {base : Heap}
theorem ok_bag (T : Txt K mg) : FnOk P w K mg base CX0 1 T.f_bag T.d_bag P_bag (spBag K) := by
  refine T.F_bag.ok sc_bag (fun vs H Q E h => ?_) (fun cdv A outer s H vs Q E hr h => ?_)
  · obtain ⟨a, ns, k, rfl, _⟩ := h
    rfl
  · obtain ⟨a, ns, k, rfl, hS, hl, k0, k1, kont⟩ := h
    refine ⟨_, (pss_cons (ps_set (i := 2) sc_bag.nd rfl (Or.inl rfl) (pe_ifExp (pt_cmpR op_lt (pv 1) (pe_callB call_len_seq (by rfl) T.b_len (by decide +kernel) (pa_cons (pv 0) pa_nil)) (nomark _)) (pe_ix ix_list (pv 0) (pv 1) (fun _ _ => rfl)) pe_int))
      (pss_cons (ps_set (i := 3) sc_bag.nd rfl (Or.inl rfl) (pe_op op_add (pe_op op_mul pe_int (pv 1)) pe_int))
      (pss_cons (ps_for PassesOwn.never rfl (pi_enum (by rfl) T.b_enumerate (pa_cons (pe_slice sl_list (pv 0) po_none (po_some pe_int)) pa_nil)) (pg_tup rfl (pgs_cons (pg_name (i := 4) sc_bag.nd rfl (Or.inl rfl)) (pgs_cons (pg_name (i := 5) sc_bag.nd rfl (Or.inl rfl)) pgs_nil))) (pss_one (ps_set (i := 3) sc_bag.nd rfl (Or.inl rfl) (pe_op op_mod (pe_callTy call_int1 (by rfl) T.b_int (by decide +kernel) (pa_cons (pe_op op_add (pe_op op_add (pe_op op_add (pe_op op_mul (pv 3) pe_int) (pe_op op_mod (pe_callTy call_int1 (by rfl) T.b_int (by decide +kernel) (pa_cons (pv 5) pa_nil)) pe_int)) (pe_op op_mul pe_int (pv 4))) pe_int) pa_nil)) pe_int))))
      (pss_one (ps_ret (pe_lst (pa_cons (pe_ifExp (pt_cmpR op_ge (pe_callB call_abs (by rfl) T.b_abs (by decide +kernel) (pa_cons (pv 2) pa_nil)) (pe_op op_pow pe_int pe_int) (nomark _)) (pe_callB call_abs (by rfl) T.b_abs (by decide +kernel) (pa_cons (pv 2) pa_nil)) pe_int) (pa_cons (pv 3) pa_nil)))))))), ?_⟩
    obtain ⟨n, hn⟩ : ∃ n : Int, Ev (tIf (tTest (tOp (rI0 fun i j => .bl (decide (i < j))) (tVar 1) (tCB (rLenS K) (tCons (tVar 0) tNil)))) (tOp (rIxL K) (tVar 0) (tVar 1)) (tC (.int 0))) [some (.ref a), some (.int k), none, none, none, none] H (.int n) := by
      by_cases hk : k < (ns.length : Int)
      · have hk' : k.toNat < ns.length := by omega
        refine ⟨ns[k.toNat], ev_if (b := true) (et_is (et_test (ev_op (ev_var rfl) (ev_cb (ea_cons (ev_var rfl) ea_nil) (rc_lenL (K := K) hS)) rv_I0)) ?_) (fun _ => ev_op (ev_var rfl) (ev_var rfl) (rv_ixL hS (at_of (j := k.toNat) (by omega) (by rw [List.getElem?_map, List.getElem?_eq_getElem hk']; rfl)))) (fun z => nomatch z)⟩
        rw [List.length_map]
        exact decide_eq_true hk
      · refine ⟨0, ev_if (b := false) (et_is (et_test (ev_op (ev_var rfl) (ev_cb (ea_cons (ev_var rfl) ea_nil) (rc_lenL (K := K) hS)) rv_I0)) ?_) (fun z => nomatch z) (fun _ => ev_c)⟩
        rw [List.length_map]
        exact decide_eq_false hk
    refine q_asg hn fun H1 X1 => ?_
    refine q_asg (v := .int (2203 * k + 911)) (ev_op (ev_op ev_c (ev_var rfl) (rv_I (.inl (by decide)))) ev_c rv_I0) fun H2 X2 => ?_
    have X12 := X1.trans X2
    refine q_enumN (K := K) (el_sl (ev_var rfl) eo_none (eo_some ev_c) (ex_l X12 hS)) (fun p i σ' H' => ∃ (t : Int) (v4 v5 : Option V), σ' = [some (.ref a), some (.int k), some (.int n), some (.int t), v4, v5] ∧ 0 ≤ t ∧ t < 2147483648 ∧ Ex H H' ∧ H' p = some (.lst (cutV (ns.map V.int) none (some 63)))) ?_ ?_ ?_ ?_
    · exact fun p H3 n3 X3 h3 => ⟨_, none, none, rfl, by omega, by omega, X12.trans X3, h3⟩
    · rintro p i σ' H' ⟨t, v4, v5, _, _, _, _, h⟩
      exact h
    · rintro p i y T' σ' H' hy ⟨t, v4, v5, rfl, t0, t1, X, hp⟩ hT
      obtain ⟨b, _, rfl⟩ : ∃ b, b ∈ ns ∧ V.int b = y := List.mem_map.mp (mem_cut (List.mem_of_getElem? hy))
      refine s_asg (v := .int ((t * 38569 + b % 2147483629 + 101 * (i : Nat) + 7) % 2147483563)) (ev_op (ev_cb (ea_cons (ev_op (ev_op (ev_op (ev_op (ev_var rfl) ev_c (rv_I (.inr (by decide)))) (ev_op (ev_cb (ea_cons (ev_var rfl) ea_nil) rc_i) ev_c (rv_I (by decide : (0 : Int) < 2147483629))) rv_I0) (ev_op ev_c (ev_var rfl) (rv_I (.inl (by decide)))) rv_I0) ev_c rv_I0) ea_nil) rc_i) ev_c (rv_I (by decide : (0 : Int) < 2147483563))) fun H3 X3 => ?_
      refine ⟨_, _, _, rfl, Int.emod_nonneg _ (by decide), Int.lt_trans (Int.emod_lt_of_pos _ (by decide)) (by decide), (X.trans (Ex.new hT)).trans X3, X3 _ _ ?_⟩
      exact (upd_ne (ne_of_none hp hT)).trans hp
    · rintro p σ' H' ⟨t, v4, v5, rfl, t0, t1, X, hp⟩
      obtain ⟨m, hm, m0⟩ : ∃ m : Int, Ev (tIf (tTest (tOp (rI0 fun i j => .bl (decide (j ≤ i))) (tCB (fun xs H Q => ∃ i : Int, xs = [.int i] ∧ Q (.int (if i < 0 then -i else i)) H) (tCons (tVar 2) tNil)) (tOp (rI CPow fun i j => .int (i ^ j.toNat)) (tC (.int 10)) (tC (.int 18))))) (tCB (fun xs H Q => ∃ i : Int, xs = [.int i] ∧ Q (.int (if i < 0 then -i else i)) H) (tCons (tVar 2) tNil)) (tC (.int 0))) [some (.ref a), some (.int k), some (.int n), some (.int t), v4, v5] H' (.int m) ∧ 0 ≤ m := by
        have hab : 0 ≤ (if n < 0 then -n else n) := by split <;> omega
        have ea : ∀ H1, Ex H' H1 → Ev (tCB (fun xs H Q => ∃ i : Int, xs = [.int i] ∧ Q (.int (if i < 0 then -i else i)) H) (tCons (tVar 2) tNil)) [some (.ref a), some (.int k), some (.int n), some (.int t), v4, v5] H1 (.int (if n < 0 then -n else n)) := fun H1 X1 => ev_cb (ea_cons (ev_var rfl) ea_nil) fun H2 _ Q' q => ⟨n, rfl, q H2 (Ex.refl H2)⟩
        have et := et_test (ev_op (ea H' (Ex.refl H')) (ev_op (ev_c (v := .int 10)) (ev_c (v := .int 18)) (rv_I (C := CPow) (g := fun i j => .int (i ^ j.toNat)) ⟨by decide, by decide, by decide⟩)) (rv_I0 (g := fun i j => .bl (decide (j ≤ i)))))
        cases hb : decide ((10 : Int) ^ (18 : Int).toNat ≤ (if n < 0 then -n else n)) with
        | true => exact ⟨_, ev_if (b := true) (et_is et hb) (fun _ => ea H' (Ex.refl H')) (fun z => nomatch z), hab⟩
        | false => exact ⟨0, ev_if (b := false) (et_is et hb) (fun z => nomatch z) (fun _ => ev_c), by decide⟩
      refine s_retL (el_lst (ea_cons hm (ea_cons (ev_var rfl) ea_nil)) (Nat.le_of_ble_eq_true rfl)) fun q H3 n3 X3 h3 => ?_
      exact kont q H3 (fresh_back X n3) (X.trans X3) ⟨m, t, h3, m0, t0, t1⟩
end
end K82

namespace K82
open PySem L2 Way Evl
theorem kk_slL {X : Cx} {K : PySem.W.Frag} (h : X.K = K := by rfl) : SlR X (rSlL K) := h ▸ sl_list
/-! lists of tuples as data -/
def dT (i : Cd) : PyData := .tuple ((nm i).map PyData.str)
theorem eqv_all : ∀ S S' : List Cd, PyData.eqvAll (S.map dT) (S'.map dT) = decide (S = S')
  | [], [] => by simp [PyData.eqvAll]
  | [], _ :: _ => by simp [PyData.eqvAll]
  | _ :: _, [] => by simp [PyData.eqvAll]
  | a :: S, b :: S' => by
    rw [List.map_cons, List.map_cons, PyData.eqvAll, eqv_all S S']
    show (PyData.eqv (dT a) (dT b) && _) = _
    unfold dT
    rw [eqv_nm]
    by_cases h1 : a = b <;> by_cases h2 : S = S' <;> simp [h1, h2]
theorem eqv_lst (S S' : List Cd) : PyData.eqv (.list (S.map dT)) (.list (S'.map dT)) = decide (S = S') := by
  rw [PyData.eqv, eqv_all]
theorem shp_lat (S : List Cd) : Shp 2 (.list (S.map dT)) := shp_lst fun d hd => by
  obtain ⟨i, _, rfl⟩ := List.mem_map.mp hd
  exact shp_nm i
theorem dp_pr {K : PySem.W.Frag} {H : Hp} : ∀ {xs : List V} {S : List Cd}, Paired (fun x i => TAt i x H) xs S → DpAll K H xs (S.map dT)
  | _, _, .nil => .nil
  | _, _, .cons ⟨t, e, h⟩ r => .cons (by subst e; exact .tup (SqT.of h) (dp_strs (nm _))) (dp_pr r)
theorem dp_lat {K : PySem.W.Frag} {H : Hp} {S : List Cd} {v : V} (h : LAt TAt S v H) : ∀ H1, Ex H H1 → Dp K H1 v (.list (S.map dT)) := fun H1 e => by
  obtain ⟨p, xs, rfl, h1, h2⟩ := h.mono tAt_mono e
  exact .lst (SqL.of h1) (dp_pr h2)
section
variable {K : PySem.W.Frag} {σ : L2.St} {H : Hp} {ta te tb tl : TE} {S S' : List Cd} {i j : Cd} {E : XK}
theorem ev_eqP (h : EvX te σ H (LAt TAt S)) (h2 : EvX tb σ H (LAt TAt S')) : Ev (tOp (rEqD K) te tb) σ H (.bl (decide (S = S'))) := fun H1 e Q q => h H1 e _ fun u H2 e2 hu => h2 H2 (e.trans e2) _ fun v H3 e3 hv =>
  ⟨_, _, dp_lat hu H3 e3, dp_lat hv H3 (Ex.refl H3), (shp_lat S).ok, (shp_lat S').ok, by rw [eqv_lst]; exact q H3 (e2.trans e3)⟩
theorem ev_neP (h : EvX te σ H (LAt TAt S)) (h2 : EvX tb σ H (LAt TAt S')) : Ev (tOp (rNeD K) te tb) σ H (.bl (!decide (S = S'))) := fun H1 e Q q => h H1 e _ fun u H2 e2 hu => h2 H2 (e.trans e2) _ fun v H3 e3 hv =>
  ⟨_, _, dp_lat hu H3 e3, dp_lat hv H3 (Ex.refl H3), (shp_lat S).ok, (shp_lat S').ok, by rw [eqv_lst]; exact q H3 (e2.trans e3)⟩
theorem ex_nil {P : Cd → V → Hp → Prop} (m : Mon P) : EvX (tLst tNil) σ H (LAt P []) := (en_lstP m evp_nil (Nat.zero_le _)).x
theorem rv_neT {u v : V} (hu : TAt i u H) (hv : TAt j v H) : RV (rNeD K) u v H (.bl (!decide (i = j))) := fun H1 e Q q => by
  obtain ⟨t, rfl, h1⟩ := hu
  obtain ⟨t', rfl, h2⟩ := hv
  exact ⟨_, _, dp_nm h1 H1 e, dp_nm h2 H1 e, (shp_nm i).ok, (shp_nm j).ok, by rw [eqv_nm]; exact q H1 (Ex.refl H1)⟩
theorem ev_part {u v : V} (h : Ev te σ H u) (hu : TAt i u H) (h2 : Ev tb σ H v) (hv : TAt j v H) : Ev (tCall spPart [] E (tCons te (tCons tb tNil))) σ H (.bl (prt i j)) :=
  ev_call (ea_cons h (ea_cons h2 ea_nil)) fun H1 e Q q E' => ⟨u, v, i, j, rfl, tAt_mono _ _ _ _ e hu, tAt_mono _ _ _ _ e hv, fun H2 e2 => q H2 e2⟩
theorem en_eight : EvN (tCall spEight [] E tNil) σ H (LAt TAt all8) := fun H1 e Q q => ⟨rfl, fun p H2 hn e2 z => q p H2 hn e2 z⟩
theorem tAt_inj {v : V} (h1 : TAt i v H) (h2 : TAt j v H) : i = j := by
  obtain ⟨t, rfl, a⟩ := h1
  obtain ⟨t', e, b⟩ := h2
  cases e
  rw [a] at b
  have e : sV i = sV j := HO.tup.inj (Option.some.inj b)
  have := sV_inj i j
  rw [decide_eq_true e] at this
  exact of_decide_eq_true this.symm
theorem rv_inT' {neg : Bool} {v u : V} (hl : LAt TAt S u H) (hv : TAt i v H) : RV (rInB (DDat K) neg) v u H (.bl (if neg then !S.any (fun s => decide (s = i)) else S.any (fun s => decide (s = i)))) := fun H1 e Q q => by
  obtain ⟨g, xs, rfl, h1, hp⟩ := hl.mono tAt_mono e
  refine ⟨g, xs, fun k => (S[k]?.map fun s => decide (s = i)).getD false, rfl, h1, fun k z hz => ?_, fun H2 e2 => ?_⟩
  · obtain ⟨s, hs, ps⟩ := pr_at hp hz
    have hv1 := tAt_mono _ _ _ _ e hv
    obtain ⟨t, rfl, a⟩ := id ps
    obtain ⟨t', rfl, b⟩ := id hv1
    refine ⟨t, t', dT s, dT i, rfl, rfl, fun H3 e3 => dp_nm a H3 e3, fun H3 e3 => dp_nm b H3 e3, (shp_nm s).ok, (shp_nm i).ok, ?_, fun ez => ?_⟩
    · simp only [hs]
      exact (eqv_nm s i).symm
    · subst ez
      simp only [hs]
      exact decide_eq_true (tAt_inj ps hv1)
  · have e3 := Paired.length hp
    rw [e3, any_at]
    exact q H2 e2
end
def tellS (S : List Cd) : List Cd := all8.filter fun one => !decide ((S.filter fun less => prt less one) = [])
def leastS (T : List Cd) : List Cd := T.filter fun one => decide ((T.filter fun less => !decide (less = one) && prt less one) = [])
def greatS (T : List Cd) : List Cd := let quiet := all8.filter fun one => !T.any (fun s => decide (s = one)); quiet.filter fun one => decide ((quiet.filter fun more => !decide (more = one) && prt one more) = [])
def spMapS (f : List Cd → List Cd) : Sp := fun vs H Q _ => ∃ v S, vs = [v] ∧ LAt TAt S v H ∧ S.length ≤ 100 ∧ ∀ p H', H p = none → Ex H H' → LAt TAt (f S) (.ref p) H' → Q (.ref p) H'
def spSets : Sp := fun vs H Q _ => ∃ p, vs = [.ref p] ∧ BagAt H p ∧ ∀ l H' S, H l = none → Kp p H H' → BagAt H' p → LAt TAt S (.ref l) H' → S.length ≤ 10 → Q (.ref l) H'
theorem part_no : ∀ i j : Cd, ((nm i).filter fun x => !inV (.str x) (sV j)).isEmpty = prt i j := by decide +kernel
theorem nm_ok : ∀ i : Cd, ((nm i).all fun x => (PyData.str x).canLay0) = true := by decide +kernel
theorem flt_str (i j : Cd) : (sV i).filter (fun x => !inV x (sV j)) = ((nm i).filter fun x => !inV (.str x) (sV j)).map V.str := by
  unfold sV
  rw [List.filter_map]
  rfl
section
variable {P : Program} {w : World} {K : PySem.W.Frag} {mg : Str → Option Value} {base : Heap}
theorem ok_part (T : Txt K mg) : FnOk P w K mg base CX0 1 T.f_part T.d_part P_part spPart := by
  refine T.F_part.ok sc_part (fun vs H Q E h => ?_) (fun cdv A outer s H vs Q E hr h => ?_)
  · obtain ⟨u, v, i, j, rfl, _⟩ := h
    rfl
  · obtain ⟨u, v, i, j, rfl, ⟨t, rfl, h1⟩, ⟨t', rfl, h2⟩, kont⟩ := h
    refine ⟨_, (pss_one (ps_ret (pe_cmpR (op_eqD hr.units) (pe_lc (own := [("_law_name", 2)]) (g := gName 2) (by rfl) sc_part.nd (pi_tup (pv 0)) (blkOk_by (own := [("_law_name", 2)]) (N := N_part) (sc := defScope s_part) (by decide +kernel)) (fun _ _ _ _ _ => (pg_name (i := 2) sc_part.nd rfl (Or.inl rfl))) (fun _ _ _ _ _ => (pts_one (pt_cmpR (Way.kk_notin (K := K)) (pv 2) (pv 1) (by rfl)))) (fun _ _ _ _ _ => (pv 2))) (pe_lst pa_nil) (nomark _)))), ?_⟩
    refine s_ret (v := .bl (prt i j)) (ev_is (ev_opLL (el_fltT (K := K) (g := fun x => !inV x (sV j)) (ev_var rfl) (st_of h1) (Nat.le_trans (sV_len i) (by decide)) (Nat.lt_of_lt_of_eq (by decide : 2 < 3) rfl) (fun _ => rfl) (fun y H1 X1 hy => et_test (ev_op (ev_var rfl) (ev_var rfl) (rv_niT (st_of (X1 _ _ h2)) (List.all_eq_true.mp (sV_flat i) y hy) (sV_flat j))))) (el_lst ea_nil (Nat.zero_le _)) fun p q H1 g1 g2 X1 => rv_eqD (d := .list (((nm i).filter fun x => !inV (.str x) (sV j)).map PyData.str)) (e := .list []) (fun H2 X2 => .lst (sq_of (X2 _ _ (flt_str i j ▸ g1))) (dp_strs _)) (fun H2 X2 => .lst (sq_of (X2 _ _ g2)) .nil) (shp_lst (n := 0) fun d hd => ?_).ok (shp_lst (n := 0) fun d hd => absurd hd List.not_mem_nil).ok) ?_) fun H1 X1 => kont H1 X1
    · obtain ⟨x, hx, rfl⟩ := List.mem_map.mp hd
      exact ⟨List.all_eq_true.mp (nm_ok i) x (List.mem_filter.mp hx).1, by simp only [PyData.depth]; omega⟩
    · rw [← part_no i j]
      cases (nm i).filter fun x => !inV (.str x) (sV j) <;> simp [PyData.eqv, PyData.eqvAll]
theorem ok_telling (T : Txt K mg) : FnOk P w K mg base CX0 2 T.f_telling T.d_telling P_telling (spMapS tellS) := by
  have G_eight := ok_eight (P := P) (w := w) (base := base) T
  have G_part := ok_part (P := P) (w := w) (base := base) T
  refine T.F_telling.ok sc_telling (fun vs H Q E h => ?_) (fun cdv A outer s H vs Q E hr h => ?_)
  · obtain ⟨v, S, rfl, _⟩ := h
    rfl
  · obtain ⟨v, S, rfl, hv, hz, kont⟩ := h
    refine ⟨_, (pss_one (ps_ret (pe_lc (own := [("_law_one", 1)]) (g := gName 1) (by rfl) sc_telling.nd (pi_list (pe_call0 G_eight hr (by rfl) T.g_eight T.F_eight.kp T.B_eight .nil pass0)) (blkOk_by (own := [("_law_one", 1)]) (N := N_telling) (sc := defScope s_telling) (by decide +kernel)) (fun _ _ _ _ _ => (pg_name (i := 1) sc_telling.nd rfl (Or.inr rfl))) (fun _ _ _ _ _ => (pts_one (pt_cmpR (Way.kk_neD (K := K) hr.units) (pe_lc (own := [("_law_less", 2)]) (g := gName 2) (by rfl) sc_telling.nd (Way.kk_piL (K := K) (pv 0)) (blkOk_by (by kernel_rfl)) (fun _ _ _ _ _ => (pg_name (i := 2) sc_telling.nd rfl (Or.inl rfl))) (fun _ _ _ _ _ => (pts_one (pt_val (pe_call G_part hr (by rfl) T.g_part T.F_part.kp T.B_part .nil pass0 (pa_cons (pv 2) (pa_cons (pv 1) pa_nil)))))) (fun _ _ _ _ _ => (pv 2))) (pe_lst pa_nil) (nomark _)))) (fun _ _ _ _ _ => (pv 1))))), ?_⟩
    refine n_ret (en_fltN (K := K) (P := TAt) (g := fun one => !decide ((S.filter fun less => prt less one) = [])) tAt_mono en_eight (Nat.le_of_ble_eq_true rfl) (Nat.lt_of_lt_of_eq (by decide : 1 < 3) rfl) (fun _ => rfl) fun y c H1 X1 hc pc => ?_) kont
    exact et_test (ev_neP (en_fltL (K := K) (P := TAt) (g := fun o => prt o c) tAt_mono (ev_var rfl) (hv.mono tAt_mono X1) (by omega) (Nat.lt_of_lt_of_eq (by decide : 2 < 3) rfl) (fun _ => rfl) fun z o H2 X2 ho pz => et_B (ev_part (ev_var rfl) pz (ev_var rfl) (tAt_mono _ _ _ _ X2 pc))).x (ex_nil tAt_mono))
theorem ok_least (T : Txt K mg) : FnOk P w K mg base CX0 2 T.f_least T.d_least P_least (spMapS leastS) := by
  have G_part := ok_part (P := P) (w := w) (base := base) T
  refine T.F_least.ok sc_least (fun vs H Q E h => ?_) (fun cdv A outer s H vs Q E hr h => ?_)
  · obtain ⟨v, S, rfl, _⟩ := h
    rfl
  · obtain ⟨v, S, rfl, hv, hz, kont⟩ := h
    refine ⟨_, (pss_one (ps_ret (pe_lc (own := [("_law_one", 1)]) (g := gName 1) (by rfl) sc_least.nd (pi_list (pv 0)) (blkOk_by (own := [("_law_one", 1)]) (N := N_least) (sc := defScope s_least) (by decide +kernel)) (fun _ _ _ _ _ => (pg_name (i := 1) sc_least.nd rfl (Or.inr rfl))) (fun _ _ _ _ _ => (pts_one (pt_cmpR (Way.kk_eqD (K := K) hr.units) (pe_lc (own := [("_law_less", 2)]) (g := gName 2) (by rfl) sc_least.nd (Way.kk_piL (K := K) (pv 0)) (blkOk_by (by kernel_rfl)) (fun _ _ _ _ _ => (pg_name (i := 2) sc_least.nd rfl (Or.inl rfl))) (fun _ _ _ _ _ => (pts_one (PW.pt (pw_and (pt_cmpR (Way.kk_neD (K := K) hr.units) (pv 2) (pv 1) (nomark _)) (pw_and1 (pt_val (pe_call G_part hr (by rfl) T.g_part T.F_part.kp T.B_part .nil pass0 (pa_cons (pv 2) (pa_cons (pv 1) pa_nil))))))))) (fun _ _ _ _ _ => (pv 2))) (pe_lst pa_nil) (nomark _)))) (fun _ _ _ _ _ => (pv 1))))), ?_⟩
    refine n_ret (en_fltL (K := K) (P := TAt) (g := fun one => decide ((S.filter fun less => !decide (less = one) && prt less one) = [])) tAt_mono (ev_var rfl) hv (by omega) (Nat.lt_of_lt_of_eq (by decide : 1 < 3) rfl) (fun _ => rfl) fun y c H1 X1 hc pc => ?_) kont
    exact et_test (ev_eqP (en_fltL (K := K) (P := TAt) (g := fun o => !decide (o = c) && prt o c) tAt_mono (ev_var rfl) (hv.mono tAt_mono X1) (by omega) (Nat.lt_of_lt_of_eq (by decide : 2 < 3) rfl) (fun _ => rfl) fun z o H2 X2 ho pz => et_and (et_test (ev_op (ev_var rfl) (ev_var rfl) (rv_neT pz (tAt_mono _ _ _ _ X2 pc)))) fun _ => et_B (ev_part (ev_var rfl) pz (ev_var rfl) (tAt_mono _ _ _ _ X2 pc))).x (ex_nil tAt_mono))
theorem ok_greatest (T : Txt K mg) : FnOk P w K mg base CX0 2 T.f_greatest T.d_greatest P_greatest (spMapS greatS) := by
  have G_eight := ok_eight (P := P) (w := w) (base := base) T
  have G_part := ok_part (P := P) (w := w) (base := base) T
  refine T.F_greatest.ok sc_greatest (fun vs H Q E h => ?_) (fun cdv A outer s H vs Q E hr h => ?_)
  · obtain ⟨v, S, rfl, _⟩ := h
    rfl
  · obtain ⟨v, S, rfl, hv, hz, kont⟩ := h
    refine ⟨_, (pss_cons (ps_set (i := 1) sc_greatest.nd rfl (Or.inr rfl) (pe_lc (own := [("_law_one", 2)]) (g := gName 2) (by rfl) sc_greatest.nd (pi_list (pe_call0 G_eight hr (by rfl) T.g_eight T.F_eight.kp T.B_eight .nil pass0)) (blkOk_by (own := [("_law_one", 2)]) (N := N_greatest) (sc := defScope s_greatest) (by decide +kernel)) (fun _ _ _ _ _ => (pg_name (i := 2) sc_greatest.nd rfl (Or.inl rfl))) (fun _ _ _ _ _ => (pts_one (pt_cmpR (Way.kk_notInD (K := K) (hr.mono (by decide))) (pv 2) (pv 0) (by rfl)))) (fun _ _ _ _ _ => (pv 2))))
      (pss_one (ps_ret (pe_lc (own := [("_law_one", 2)]) (g := gName 2) (by rfl) sc_greatest.nd (pi_list (pv 1)) (blkOk_by (own := [("_law_one", 2)]) (N := N_greatest) (sc := defScope s_greatest) (by decide +kernel)) (fun _ _ _ _ _ => (pg_name (i := 2) sc_greatest.nd rfl (Or.inr rfl))) (fun _ _ _ _ _ => (pts_one (pt_cmpR (Way.kk_eqD (K := K) hr.units) (pe_lc (own := [("_law_more", 3)]) (g := gName 3) (by rfl) sc_greatest.nd (Way.kk_piL (K := K) (pv 1)) (blkOk_by (by kernel_rfl)) (fun _ _ _ _ _ => (pg_name (i := 3) sc_greatest.nd rfl (Or.inl rfl))) (fun _ _ _ _ _ => (pts_one (PW.pt (pw_and (pt_cmpR (Way.kk_neD (K := K) hr.units) (pv 3) (pv 2) (nomark _)) (pw_and1 (pt_val (pe_call G_part hr (by rfl) T.g_part T.F_part.kp T.B_part .nil pass0 (pa_cons (pv 2) (pa_cons (pv 3) pa_nil))))))))) (fun _ _ _ _ _ => (pv 3))) (pe_lst pa_nil) (nomark _)))) (fun _ _ _ _ _ => (pv 2)))))), ?_⟩
    refine n_asg (en_fltN (K := K) (P := TAt) (g := fun one => !S.any (fun s => decide (s = one))) tAt_mono en_eight (Nat.le_of_ble_eq_true rfl) (Nat.lt_of_lt_of_eq (by decide : 2 < 4) rfl) (fun _ => rfl) fun y c H1 X1 hc pc => et_test (ev_op (ev_var rfl) (ev_var rfl) (rv_inT' (neg := true) (hv.mono tAt_mono X1) pc))) fun p H1 n1 X1 h1 => ?_
    have hl : (all8.filter fun one => !S.any (fun s => decide (s = one))).length ≤ 8 := List.length_filter_le _ all8
    refine n_ret (en_fltL (K := K) (P := TAt) (g := fun one => decide (((all8.filter fun one => !S.any (fun s => decide (s = one))).filter fun more => !decide (more = one) && prt one more) = [])) tAt_mono (ev_var rfl) h1 (by omega) (Nat.lt_of_lt_of_eq (by decide : 2 < 4) rfl) (fun _ => rfl) fun y c H2 X2 hc pc => ?_) fun q H2 n2 X2 h2 => kont q H2 (fresh_back X1 n2) (X1.trans X2) h2
    exact et_test (ev_eqP (en_fltL (K := K) (P := TAt) (g := fun o => !decide (o = c) && prt c o) tAt_mono (ev_var rfl) (h1.mono tAt_mono X2) (by omega) (Nat.lt_of_lt_of_eq (by decide : 3 < 4) rfl) (fun _ => rfl) fun z o H3 X3 ho pz => et_and (et_test (ev_op (ev_var rfl) (ev_var rfl) (rv_neT pz (tAt_mono _ _ _ _ X3 pc)))) fun _ => et_B (ev_part (ev_var rfl) (tAt_mono _ _ _ _ X3 pc) (ev_var rfl) pz)).x (ex_nil tAt_mono))
theorem cut_len {xs : List V} {d : Int} (h8 : xs.length = 8) (h0 : 0 ≤ d) (h1 : d < 2) : 0 < (cutV xs (some d) none).length ∧ (cutV xs (some d) none).length ≤ 8 := by
  have e : d = ((d.toNat : Nat) : Int) := by omega
  rw [e]
  unfold cutV
  rw [List.length_take, List.length_drop, HT.sIx_nat, HT.sIx_none, h8]
  omega
theorem bag_stay {H H' : Hp} {p D : Addr} {acc : List V} (hD : H D = some (.lst acc)) (n : p ≠ D) (k : Kp D H H') (h : BagAt H p) : BagAt H' p := let ⟨a, b, h1, h2⟩ := h; ⟨a, b, k _ _ n h1, h2⟩
set_option maxHeartbeats 8000000 in
theorem ok_sets (T : Txt K mg) : FnOk P w K mg base CX0 3 T.f_sets T.d_sets P_sets spSets := by
  have G_of := ok_of (P := P) (w := w) (base := base) T
  have G_eight := ok_eight (P := P) (w := w) (base := base) T
  have G_take := ok_take (P := P) (w := w) (base := base) T
  refine T.F_sets.ok sc_sets (fun vs H Q E h => ?_) (fun cdv A outer s H vs Q E hr h => ?_)
  · obtain ⟨p, rfl, _⟩ := h
    rfl
  · obtain ⟨p, rfl, hb, kont⟩ := h
    refine ⟨_, (pss_one (ps_ret (pe_lc (own := [("_law_turn", 1)]) (g := gName 1) (by rfl) sc_sets.nd (pi_range1 (by rfl) T.b_range (pa_cons (pe_call G_of hr (by rfl) T.g_of T.F_of.kp T.B_of .nil pass0 (pa_cons (pv 0) (pa_cons (pe_lst (pa_cons pe_int (pa_cons pe_int (pa_cons pe_int (pa_cons pe_int (pa_cons pe_int (pa_cons pe_int pa_nil))))))) pa_nil))) pa_nil)) (blkOk_by (own := [("_law_turn", 1)]) (N := N_sets) (sc := defScope s_sets) (by decide +kernel)) (fun _ _ _ _ _ => (pg_name (i := 1) sc_sets.nd rfl (Or.inl rfl))) (fun _ _ _ _ _ => pts_nil) (fun _ _ _ _ _ => (pe_call G_of hr (by rfl) T.g_of T.F_of.kp T.B_of .nil pass0 (pa_cons (pv 0) (pa_cons (pe_slice (kk_slL (K := K)) (pe_call0 G_eight (hr.mono (by decide)) (by rfl) T.g_eight T.F_eight.kp T.B_eight .nil pass0) (po_some (pe_call G_take (hr.mono (by decide)) (by rfl) T.g_take T.F_take.kp T.B_take .nil pass0 (pa_cons (pv 0) (pa_cons pe_int pa_nil)))) po_none) pa_nil))))))), ?_⟩
    refine ⟨_, rfl, el_lst (vs := [.int 0, .int 1, .int 2, .int 3, .int 4, .int 10]) (ea_cons ev_c (ea_cons ev_c (ea_cons ev_c (ea_cons ev_c (ea_cons ev_c (ea_cons ev_c ea_nil)))))) (Nat.le_of_ble_eq_true rfl) H (Ex.refl H) _ fun l H1 hn e1 h1 => ?_⟩
    have nlp : l ≠ p := by
      obtain ⟨a, b, h2, _⟩ := hb
      exact (ne_of_none h2 hn).symm
    refine ⟨p, l, _, rfl, bag_mono e1 hb, nlp, h1, (by decide : 0 < 6), (by decide : 6 ≤ 100), fun v H2 hv K2 b2 => ?_⟩
    obtain ⟨n, rfl, n0, n1⟩ : ∃ n : Int, v = .int n ∧ 0 ≤ n ∧ n ≤ 10 := by
      simp only [List.mem_cons, List.not_mem_nil, or_false] at hv
      rcases hv with rfl | rfl | rfl | rfl | rfl | rfl <;> exact ⟨_, rfl, by decide, by decide⟩
    have KH2 : Kp p H H2 := Kp.trans (Kp.of e1) K2
    refine ⟨n, rfl, by omega, by omega, fun Dl hD => ?_⟩
    have npD : p ≠ Dl := by
      obtain ⟨a, b, h2, _⟩ := b2
      exact ne_of_none h2 hD
    refine lc_range (lo := 0) (n := n.toNat) (fun k H' => ∃ ys S, H' Dl = some (.lst ys) ∧ Paired (fun x i => TAt i x H') ys S ∧ S.length = k ∧ Kp p H2 H' ∧ BagAt H' p) ⟨[], [], upd_same, .nil, rfl, Kp.new (Kp.refl _ _) hD, bag_mono (Ex.new hD) b2⟩ ?_ ?_
    · rintro k H3 hk ⟨ys, S, h3, p3, l3, K3, b3⟩
      refine ⟨rfl, yes_of ?_⟩
      refine ⟨_, rfl, rfl, fun q H4 hn4 e4 h4 => ⟨_, rfl, p, 2, rfl, bag_mono e4 b3, by decide, by decide, fun d H5 K5 b5 d0 d1 => ⟨d, rfl, ?_⟩⟩⟩
      obtain ⟨q', xs8, eq, hq, p8⟩ := h4
      cases eq
      have b4 := bag_mono e4 b3
      obtain ⟨ba, bb, hb4, _⟩ := id b4
      have nqp : q ≠ p := by
        obtain ⟨a, b, h2, _⟩ := b3
        exact (ne_of_none h2 hn4).symm
      have l8 : xs8.length = 8 := Paired.length p8
      have hq5 := K5 _ _ nqp hq
      refine ⟨q, xs8, rfl, sq_of hq5, fun r hr => ?_⟩
      have cl := cut_len l8 d0 d1
      have b6 : BagAt (upd H5 r (.lst (cutV xs8 (some d) none))) p := bag_mono (Ex.new hr) b5
      have nrp : r ≠ p := by
        obtain ⟨a, b, h2, _⟩ := b5
        exact (ne_of_none h2 hr).symm
      refine ⟨p, r, _, rfl, b6, nrp, upd_same, cl.1, by omega, fun v H7 hv K7 b7 => ?_⟩
      obtain ⟨kv, hkv, ekv⟩ := List.mem_iff_getElem.mp (mem_cut hv)
      obtain ⟨c, hc, pc⟩ := pr_at p8 (List.getElem?_eq_getElem hkv)
      rw [ekv] at pc
      have up : ∀ {i x}, TAt i x H4 → TAt i x H7 := fun {i x} z => by
        have z5 := tAt_stay _ _ _ _ p _ hb4 K5 z
        obtain ⟨b5a, b5b, hb5, _⟩ := id b6
        exact tAt_stay _ _ _ _ p _ hb5 K7 (tAt_mono _ _ _ _ (Ex.new hr) z5)
      have h7 : H7 Dl = some (.lst ys) := K7 _ _ npD.symm ((upd_ne (fun z => by
        have h5 := K5 _ _ npD.symm (e4 _ _ h3)
        rw [← z, h5] at hr; cases hr)).trans (K5 _ _ npD.symm (e4 _ _ h3)))
      have K37 : Kp p H3 H7 := Kp.trans (Kp.trans (Kp.of e4) (Kp.trans K5 (Kp.of (Ex.new hr)))) K7
      have kD : Kp Dl H7 (upd H7 Dl (.lst (ys ++ [v]))) := Kp.set (Kp.refl _ _)
      refine ⟨ys, h7, sz_lt (by have := Paired.length p3; omega), ys ++ [v], S ++ [c], upd_same, pr_app (Paired.mapP p3 fun x i z => tAt_stay _ _ _ _ Dl ys h7 kD (up (tAt_mono _ _ _ _ e4 z))) (.cons (tAt_stay _ _ _ _ Dl ys h7 kD (up pc)) .nil), by rw [List.length_append, l3]; rfl, ?_, bag_stay h7 npD kD b7⟩
      intro b o nb hb'
      have nbD : b ≠ Dl := ne_of_none hb' hD
      exact (upd_ne nbD).trans (K37 _ _ nb (K3 _ _ nb hb'))
    · rintro H3 ⟨ys, S, h3, p3, l3, K3, b3⟩
      refine kont Dl H3 S ?_ (Kp.trans KH2 K3) b3 ⟨Dl, ys, rfl, h3, p3⟩ (by omega)
      cases hc : H Dl with
      | none => rfl
      | some o => rw [KH2 _ _ npD.symm hc] at hD; cases hD
end
end K82

namespace K82
/-! the plain law -/
abbrev ups : List (List Cd) := [[], [7], [4, 7], [5, 7], [4, 5, 7], [1, 4, 5, 7], [6, 7], [4, 6, 7], [2, 4, 6, 7], [5, 6, 7], [3, 5, 6, 7], [4, 5, 6, 7], [1, 4, 5, 6, 7], [2, 4, 5, 6, 7], [1, 2, 4, 5, 6, 7], [3, 4, 5, 6, 7], [1, 3, 4, 5, 6, 7], [2, 3, 4, 5, 6, 7], [1, 2, 3, 4, 5, 6, 7], [0, 1, 2, 3, 4, 5, 6, 7]]
abbrev has (T : List Cd) (i : Cd) : Bool := T.any fun s => decide (s = i)
structure Fit (S T : List Cd) : Prop where
  le : S = leastS T
  ct : ∀ i, cont S i = has T i
  gr : great S = greatS T
  ln : (all8.filter fun i => cont S i).length = T.length
  em : S.isEmpty = decide (T = [])
  sz : S.length ≤ 8
  tz : T.length ≤ 8
def fitB (S T : List Cd) : Bool := decide (S = leastS T) && (all8.all (fun i => cont S i == has T i) && (decide (great S = greatS T) && (decide ((all8.filter fun i => cont S i).length = T.length) && ((S.isEmpty == decide (T = [])) && (decide (S.length ≤ 8) && decide (T.length ≤ 8))))))
theorem all8_mem : ∀ i : Cd, i ∈ all8 := by decide +kernel
theorem fit_of {S T : List Cd} (h : fitB S T = true) : Fit S T := by
  unfold fitB at h
  simp only [Bool.and_eq_true, decide_eq_true_eq, beq_iff_eq, List.all_eq_true] at h
  obtain ⟨h1, h2, h3, h4, h5, h6, h7⟩ := h
  exact ⟨h1, fun i => h2 i (all8_mem i), h3, h4, h5, h6, h7⟩
theorem ups_fit : (ups.all fun T => fitB (leastS T) T) = true := by decide +kernel
def extT (a : Cd) (T : List Cd) : List Cd := all8.filter fun one => prt a one || has T one
theorem ups_ext : (all8.all fun a => ups.all fun T => decide (extT a T ∈ ups)) = true := by decide +kernel
def orT (T U : List Cd) : List Cd := all8.filter fun e => has T e || has U e
def andT (T U : List Cd) : List Cd := T.filter fun e => has U e
theorem ups_or : (ups.all fun T => ups.all fun U => decide (tellS (leastS T ++ leastS U) = orT T U)) = true := by decide +kernel
theorem ups_and : (ups.all fun T => ups.all fun U => decide (tellS ((leastS T).flatMap fun a => (leastS U).map (orI a)) = andT T U)) = true := by decide +kernel
theorem ups_with : (ups.all fun T => ups.all fun U => ((leastS T).map fun i => cont (leastS U) i).all id == decide ((T.filter fun e => !has U e) = [])) = true := by decide +kernel
theorem ups_eq : (ups.all fun T => ups.all fun U => decide (leastS T = leastS U) == decide (T = U)) = true := by decide +kernel
theorem ups_again : (ups.all fun T => decide (tellS (leastS T) = T)) = true := by decide +kernel
theorem tell_iff {S : List Cd} {one : Cd} : (!decide ((S.filter fun less => prt less one) = [])) = S.any fun s => prt s one := by
  rw [Bool.eq_iff_iff, Bool.not_eq_true', decide_eq_false_iff_not, List.any_eq_true]
  constructor
  · intro h
    cases e : S.filter fun less => prt less one with
    | nil => exact absurd e h
    | cons a r =>
      have : a ∈ S.filter fun less => prt less one := by rw [e]; exact List.mem_cons_self ..
      exact ⟨a, (List.mem_filter.mp this).1, (List.mem_filter.mp this).2⟩
  · rintro ⟨s, hs, h⟩ e
    have : s ∈ S.filter fun less => prt less one := List.mem_filter.mpr ⟨hs, h⟩
    rw [e] at this
    exact absurd this List.not_mem_nil
theorem mem_tell {S : List Cd} {one : Cd} : one ∈ tellS S ↔ ∃ s ∈ S, prt s one = true := by
  unfold tellS
  rw [List.mem_filter, tell_iff, List.any_eq_true]
  exact ⟨fun h => h.2, fun h => ⟨all8_mem one, h⟩⟩
theorem has_iff {T : List Cd} {i : Cd} : has T i = true ↔ i ∈ T := by
  unfold has
  rw [List.any_eq_true]
  exact ⟨fun ⟨s, hs, e⟩ => of_decide_eq_true e ▸ hs, fun h => ⟨i, h, decide_eq_true rfl⟩⟩
theorem tell_cons (a : Cd) (S : List Cd) : tellS (a :: S) = extT a (tellS S) := by
  unfold extT
  show (all8.filter _) = _
  refine List.filter_congr fun one _ => ?_
  rw [tell_iff, List.any_cons, Bool.eq_iff_iff, Bool.or_eq_true, Bool.or_eq_true, has_iff, mem_tell, List.any_eq_true]
theorem tell_ups : ∀ S : List Cd, tellS S ∈ ups
  | [] => by decide +kernel
  | a :: S => by
    rw [tell_cons]
    exact of_decide_eq_true (List.all_eq_true.mp (List.all_eq_true.mp ups_ext a (all8_mem a)) _ (tell_ups S))
theorem prt_refl : ∀ i : Cd, prt i i = true := by decide +kernel
theorem prt_trans : ∀ i j k : Cd, (!prt i j || !prt j k || prt i k) = true := by decide +kernel
theorem prt_anti : ∀ i j : Cd, (!prt i j || !prt j i || decide (i = j)) = true := by decide +kernel
theorem ptr {i j k : Cd} (h1 : prt i j = true) (h2 : prt j k = true) : prt i k = true := by
  have := prt_trans i j k
  rw [h1, h2] at this
  simpa using this
theorem pan {i j : Cd} (h1 : prt i j = true) (h2 : prt j i = true) : i = j := by
  have := prt_anti i j
  rw [h1, h2] at this
  simpa using this
theorem prof_least (S : List Cd) : prof S = leastS (tellS S) := by
  have key : ∀ one : Cd, ((S.any fun s => decide (s = one)) && (S.filter fun o => !decide (o = one) && prt o one).isEmpty) = (!decide ((S.filter fun less => prt less one) = []) && decide (((tellS S).filter fun less => !decide (less = one) && prt less one) = [])) := fun one => by
    rw [tell_iff, Bool.eq_iff_iff, Bool.and_eq_true, Bool.and_eq_true, List.isEmpty_iff, decide_eq_true_eq, List.filter_eq_nil_iff, List.filter_eq_nil_iff, List.any_eq_true, List.any_eq_true]
    constructor
    · rintro ⟨⟨s, hs, e⟩, h⟩
      have es := of_decide_eq_true e
      subst es
      refine ⟨⟨s, hs, prt_refl s⟩, fun l hl z => ?_⟩
      rw [Bool.and_eq_true, Bool.not_eq_true', decide_eq_false_iff_not] at z
      obtain ⟨t, ht, pt⟩ := mem_tell.mp hl
      by_cases ets : t = s
      · subst ets
        exact z.1 (pan z.2 pt)
      · refine h t ht ?_
        rw [Bool.and_eq_true, Bool.not_eq_true', decide_eq_false_iff_not]
        exact ⟨ets, ptr pt z.2⟩
    · rintro ⟨⟨s, hs, ps⟩, h⟩
      have es : s = one := by
        by_cases e : s = one
        · exact e
        · refine absurd ?_ (h s (mem_tell.mpr ⟨s, hs, prt_refl s⟩))
          rw [Bool.and_eq_true, Bool.not_eq_true', decide_eq_false_iff_not]
          exact ⟨e, ps⟩
      subst es
      exact ⟨⟨s, hs, decide_eq_true rfl⟩, fun o ho z => h o (mem_tell.mpr ⟨o, ho, prt_refl o⟩) z⟩
  unfold prof leastS
  conv => rhs; arg 2; unfold tellS
  rw [List.filter_filter]
  refine List.filter_congr fun one _ => ?_
  rw [key one, Bool.and_comm]
theorem ups2 {f : List Cd → List Cd → Bool} (h : (ups.all fun T => ups.all fun U => f T U) = true) (S S' : List Cd) : f (tellS S) (tellS S') = true := List.all_eq_true.mp (List.all_eq_true.mp h _ (tell_ups S)) _ (tell_ups S')
theorem fit_prof (S : List Cd) : Fit (prof S) (tellS S) := by
  rw [prof_least]
  exact fit_of (List.all_eq_true.mp ups_fit _ (tell_ups S))
theorem fit_or (S S' : List Cd) : Fit (prof (prof S ++ prof S')) (orT (tellS S) (tellS S')) := by
  have e : tellS (leastS (tellS S) ++ leastS (tellS S')) = orT (tellS S) (tellS S') := of_decide_eq_true (ups2 ups_or S S')
  rw [prof_least S, prof_least S', ← e]
  exact fit_prof _
theorem fit_and (S S' : List Cd) : Fit (prof ((prof S).flatMap fun a => (prof S').map (orI a))) (andT (tellS S) (tellS S')) := by
  have e : tellS ((leastS (tellS S)).flatMap fun a => (leastS (tellS S')).map (orI a)) = andT (tellS S) (tellS S') := of_decide_eq_true (ups2 ups_and S S')
  rw [prof_least S, prof_least S', ← e]
  exact fit_prof _
theorem with_prof (S S' : List Cd) : ((prof S).map fun i => cont (prof S') i).all id = decide (((tellS S).filter fun e => !has (tellS S') e) = []) := by
  rw [prof_least S, prof_least S']
  exact beq_iff_eq.mp (ups2 ups_with S S')
theorem eq_prof (S S' : List Cd) : decide (prof S = prof S') = decide (tellS S = tellS S') := by
  rw [prof_least S, prof_least S']
  exact beq_iff_eq.mp (ups2 ups_eq S S')
theorem prof_prof (S : List Cd) : prof (prof S) = prof S := by
  rw [prof_least (prof S), prof_least S, of_decide_eq_true (List.all_eq_true.mp ups_again _ (tell_ups S))]
theorem fit_nil : Fit (prof []) [] := fit_prof []
end K82

namespace K82
open PySem L2 Way Evl
section
variable {K : PySem.W.Frag} {σ : L2.St} {H : Hp} {ta te tb tl : TE} {S T : List Cd} {i j : Cd} {E : XK} {CP CM : Addr}
/-- [e for x in TUPLE], e makes objects or hands them on -/
theorem en_lcT {a : Addr} {xs : List V} {j : Nat} {vs : List Nat} {P : Nat → V → Hp → Prop} (hs : Sits P) (h : Ev tl σ H (.ref a)) (hx : SqT K H a xs) (hz : xs.length ≤ 40000) (hw : ∀ x, wipe ((wipe σ vs).set j (some x)) vs = wipe σ vs)
    (he : ∀ (i : Nat) (x : V) H1, Ex H H1 → xs[i]? = some x → EvX te ((wipe σ vs).set j (some x)) H1 (P i)) : EvN (tLc (iTup K tl) (gName j) tYes te vs) σ H (Made P xs.length) := fun H0 e Q q => h H0 e _ fun H1 e1 => ⟨a, rfl, ⟨xs, ex_t (e.trans e1) hx⟩, fun Dl hD =>
  lc_tup (xs := xs) (Cx2 H1 P Dl) ⟨hD, Ex.new hD, [], upd_same, rfl, fun j y hj => by simp at hj⟩ (fun i H' _ p => ex_t ((e.trans e1).trans p.2.1) hx) (fun i x H' hi p => ⟨hw x, by
    exact cx2_turn hs p (by have := (List.getElem?_eq_some_iff.mp hi).1; omega) (he i x H1 (e.trans e1) hi)⟩)
    (fun H' p => by
      obtain ⟨hn, ex, ys, h1, h2, h3⟩ := p
      exact q Dl H' (fresh_back e1 hn) (e1.trans ex) ⟨Dl, ys, rfl, h1, h2, h3⟩)⟩
theorem en_mapT {P R : Cd → V → Hp → Prop} {c : Cd → Cd} {p : Addr} {xs : List V} {j : Nat} {vs : List Nat} (m : Mon P) (hR : Stay R) (h : Ev tl σ H (.ref p)) (hs : SqT K H p xs) (hx : Paired (fun x i => P i x H) xs S) (hz : S.length ≤ 40000) (hw : ∀ x, wipe ((wipe σ vs).set j (some x)) vs = wipe σ vs)
    (he : ∀ (x : V) (i : Cd) H1, Ex H H1 → i ∈ S → P i x H1 → EvX te ((wipe σ vs).set j (some x)) H1 (R (c i))) : EvN (tLc (iTup K tl) (gName j) tYes te vs) σ H (LAt R (S.map c)) := by
  have hlen : xs.length = S.length := Paired.length hx
  refine (en_lcT (K := K) (P := fun k v H' => ∀ s, S[k]? = some s → R (c s) v H') (fun i v H1 H2 D acc h1 h2 h3 s hs => hR _ _ _ _ D acc h1 h2 (h3 s hs)) h hs (by omega) hw fun i x H1 e hi => ?_).to fun v H1 e hm => ?_
  · obtain ⟨y, hy, py⟩ := pr_at hx hi
    refine (he x y H1 e (List.mem_of_getElem? hy) (m _ _ _ _ e py)).to fun v H2 e2 r s hs => ?_
    rw [hy] at hs
    cases hs
    exact r
  · obtain ⟨q, ys, h1, h2, h3, h4⟩ := hm
    refine ⟨q, ys, h1, h2, pr_of (by rw [List.length_map, h3, hlen]) fun i y s e1 e2 => ?_⟩
    rw [List.getElem?_map] at e2
    cases e3 : S[i]? with
    | none => rw [e3] at e2; cases e2
    | some z => rw [e3] at e2; cases e2; exact h4 i y e1 z e3
/-- the same over an own iterable -/
theorem en_mapO {R : Cd → V → Hp → Prop} {c : Cd → Cd} {u : V} {j : Nat} {vs : List Nat} (hR : Stay R) (h : Ev tl σ H u) (hu : PAt CP CM S u H) (hz : S.length ≤ 40000) (hw : ∀ x, wipe ((wipe σ vs).set j (some x)) vs = wipe σ vs)
    (he : ∀ (x : V) (i : Cd) H1, Ex H H1 → i ∈ S → MAt CM i x H1 → EvX te ((wipe σ vs).set j (some x)) H1 (R (c i))) : EvN (tLc (iOwn K CP "least_sets" tl) (gName j) tYes te vs) σ H (LAt R (S.map c)) := fun H1 e Q q => h H1 e _ fun H2 e2 => by
  obtain ⟨x, dx, t, rfl, hx, ⟨t', xs, et, ht, hp⟩⟩ := pAt_mono (e.trans e2) hu
  cases et
  obtain ⟨a, ea, hq, r⟩ := en_mapT (K := K) (P := MAt CM) (R := R) (c := c) (tl := tC (.ref t)) (H := H2) mAt_mono hR ev_c (st_of ht) hp hz hw (fun x i H3 e3 hi px => he x i H3 ((e.trans e2).trans e3) hi px) H2 (Ex.refl H2) Q fun p H3 hn e3 z => q p H3 (fresh_back e2 hn) (e2.trans e3) z
  cases ea
  exact ⟨x, dx, t, _, xs, rfl, hx, rfl, st_of ht, r⟩
theorem ex_names {u : V} {cl : Cls K CM} {na : NoAttr K CM "names"} (h : Ev te σ H u) (hu : MAt CM i u H) : EvX (tFld K te "names") σ H (TAt i) := by
  obtain ⟨x, dx, t, rfl, hx, ht⟩ := hu
  exact EvX.of (ev_fld h hx cl na rfl) fun H1 e => ⟨t, rfl, e _ _ ht⟩
theorem en_map {f : List Cd → List Cd} {u : V} (h : Ev te σ H u) (hu : LAt TAt S u H) (hz : S.length ≤ 100) : EvN (tCall (spMapS f) [] E (tCons te tNil)) σ H (LAt TAt (f S)) := fun H1 e Q q => h H1 e _ fun H2 e2 => ⟨u, S, rfl, hu.mono tAt_mono (e.trans e2), hz, fun p H3 hn e3 z => q p H3 (fresh_back e2 hn) (e2.trans e3) z⟩
theorem ev_inMan {v u : V} (h : Ev te σ H v) (hv : TAt i v H) (h2 : Ev tb σ H u) (hu : PAt CP CM S u H) (hz : S.length ≤ 500) : Ev (tOp (rInO CP (spCont CP CM) E false) (tCall (spMan CM) [] E (tCons te tNil)) tb) σ H (.bl (cont S i)) := fun H1 e Q q =>
  h H1 e _ fun H2 e2 => ⟨v, i, rfl, tAt_mono _ _ _ _ (e.trans e2) hv, fun w H3 e3 hw => h2 H3 ((e.trans e2).trans e3) _ fun H4 e4 => rv_inP (neg := false) (mAt_mono _ _ _ _ e4 hw) (pAt_mono (((e.trans e2).trans e3).trans e4) hu) hz H4 (Ex.refl H4) Q fun H5 e5 => q H5 ((e2.trans e3).trans (e4.trans e5))⟩
theorem ev_isB {x y : Bool} (h : Ev te σ H (.bl x)) (h2 : Ev tb σ H (.bl y)) : Ev (tCall spIs [] E (tCons te (tCons tb tNil))) σ H (.bl (decide (x = y))) := ev_call (ea_cons h (ea_cons h2 ea_nil)) fun H1 e Q q E' => .inl ⟨x, y, rfl, fun H2 e2 => q H2 e2⟩
theorem ev_isI {x y : Int} (h : Ev te σ H (.int x)) (h2 : Ev tb σ H (.int y)) : Ev (tCall spIs [] E (tCons te (tCons tb tNil))) σ H (.bl (decide (x = y))) := ev_call (ea_cons h (ea_cons h2 ea_nil)) fun H1 e Q q E' => .inr ⟨x, y, rfl, fun H2 e2 => q H2 e2⟩
theorem en_great {u : V} (h : Ev te σ H u) (hu : PAt CP CM S u H) (hz : S.length ≤ 500) : EvN (tMeth CP "greatest" (spGreat CP CM) [] E te tNil) σ H (LAt (MAt CM) (great S)) := fun H1 e Q q => h H1 e _ fun H2 e2 => by
  obtain ⟨x, dx, t, rfl, hx, _⟩ := id hu
  exact ⟨x, dx, _, rfl, (e.trans e2) _ _ hx, rfl, _, S, rfl, pAt_mono (e.trans e2) hu, hz, fun p H3 hn e3 z => q p H3 (fresh_back e2 hn) (e2.trans e3) z⟩
theorem ev_lenO {u : V} (h : Ev te σ H u) (hu : PAt CP CM S u H) (hz : S.length ≤ 500) : Ev (tCB (rLenO CP (spLen CP CM) E) (tCons te tNil)) σ H (.int ((all8.filter fun i => cont S i).length : Int)) := fun H1 e Q q => h H1 e _ fun H2 e2 => by
  obtain ⟨x, dx, t, rfl, hx, _⟩ := id hu
  have hl : (all8.filter fun i => cont S i).length ≤ 8 := List.length_filter_le _ all8
  exact ⟨x, dx, _, rfl, (e.trans e2) _ _ hx, _, S, rfl, pAt_mono (e.trans e2) hu, hz, fun H3 e3 => ⟨_, rfl, ⟨by omega, by omega⟩, q H3 (e2.trans e3)⟩⟩
theorem ev_quiet {u : V} (h : Ev te σ H u) (hu : PAt CP CM S u H) : Ev (tProp CP (spQuiet CP CM) [] E te) σ H (.bl S.isEmpty) := fun H1 e Q q => h H1 e _ fun H2 e2 => by
  obtain ⟨x, dx, t, rfl, hx, _⟩ := id hu
  exact ⟨x, dx, _, rfl, (e.trans e2) _ _ hx, _, S, rfl, pAt_mono (e.trans e2) hu, fun H3 e3 => q H3 (e2.trans e3)⟩
end
section
variable {K : PySem.W.Frag} {σ : L2.St} {H : Hp} {ta te tb tl : TE} {S T : List Cd} {i j : Cd} {E : XK} {CP CM : Addr} {tz : TS} {D : Ends}
theorem en_mapN {P R : Cd → V → Hp → Prop} {c : Cd → Cd} {j : Nat} {vs : List Nat} (m : Mon P) (hR : Stay R) (h : EvN tl σ H (LAt P S)) (hz : S.length ≤ 40000) (hw : ∀ x, wipe ((wipe σ vs).set j (some x)) vs = wipe σ vs)
    (he : ∀ (x : V) (i : Cd) H1, Ex H H1 → i ∈ S → P i x H1 → EvX te ((wipe σ vs).set j (some x)) H1 (R (c i))) : EvN (tLc (iList K tl) (gName j) tYes te vs) σ H (LAt R (S.map c)) := fun H1 e Q q =>
  h H1 e _ fun p H2 hn e2 hL => en_mapL (K := K) (tl := tC (.ref p)) (H := H2) m hR ev_c hL hz hw (fun x i H3 e3 hi px => he x i H3 ((e.trans e2).trans e3) hi px) H2 (Ex.refl H2) Q fun p' H3 hn' e3 z => q p' H3 (fresh_back e2 hn') (e2.trans e3) z
theorem x_appQ {l : Addr} {to : TE} {P : Cd → V → Hp → Prop} {c : Cd} (m : Mon P) (st : Stay P) (ho : Ev to σ H (.ref l)) (hl : LAt P S (.ref l) H) (h : EvX te σ H (P c)) (hz : S.length < 100000) (k : ∀ H1, Kp l H H1 → LAt P (S ++ [c]) (.ref l) H1 → tz D σ H1) :
    tSeq (tDrop (tBM K "list" rAppend to (tCons te tNil))) tz D σ H := x_appU (D := { D with nx := tz D }) m st ho hl h hz k
theorem great_len (S : List Cd) : (great S).length ≤ 8 := Nat.le_trans (List.length_filter_le _ _) (List.length_filter_le _ all8)
end
def spFits (CP CM : Addr) : Sp := fun vs H Q _ => ∃ u v S T, vs = [u, v] ∧ PAt CP CM S u H ∧ LAt TAt T v H ∧ Fit S T ∧ ∀ H', Ex H H' → Q (.bl true) H'
section
variable {P : Program} {w : World} {K : PySem.W.Frag} {mg : Str → Option Value} {base : Heap}
set_option maxHeartbeats 16000000 in
theorem ok_fits (T : Txt K mg) : FnOk P w K mg base CX0 6 T.f_fits T.d_fits P_fits (spFits T.C_Profile T.C_Manners) := by
  have G_least := ok_least (P := P) (w := w) (base := base) T
  have G_eight := ok_eight (P := P) (w := w) (base := base) T
  have G_Profile_greatest := ok_Profile_greatest (P := P) (w := w) (base := base) T
  have G_greatest := ok_greatest (P := P) (w := w) (base := base) T
  have G_is := ok_is (P := P) (w := w) (base := base) T
  have G_manners := ok_manners (P := P) (w := w) (base := base) T
  have G_Manners_init := ok_Manners_init (P := P) (w := w) (base := base) T
  have G_Profile_is_quiet := ok_Profile_is_quiet (P := P) (w := w) (base := base) T
  have G_Profile_contains := ok_Profile_contains (P := P) (w := w) (base := base) T
  have G_Profile_len := ok_Profile_len (P := P) (w := w) (base := base) T
  have G_Profile_iter := ok_Profile_iter (P := P) (w := w) (base := base) T
  refine T.F_fits.ok sc_fits (fun vs H Q E h => ?_) (fun cdv A outer s H vs Q E hr h => ?_)
  · obtain ⟨u, v, S, R, rfl, _⟩ := h
    rfl
  · obtain ⟨u, v, S, R, rfl, hu, hv, hF, kont⟩ := h
    refine ⟨_, (pss_cons (ps_set (i := 2) sc_fits.nd rfl (Or.inl rfl) (pe_call G_least (hr.mono (by decide)) (by rfl) T.g_least T.F_least.kp T.B_least .nil pass0 (pa_cons (pv 1) pa_nil)))
      (pss_cons (ps_if (PW.pt (pw_or (pt_not (pt_val (pe_callB call_isi (by rfl) T.b_isinstance (by decide +kernel) (pa_cons (pv 0) (pa_cons (pe_glob (v := .ref T.C_Profile) (by rfl) T.g_Profile rfl) pa_nil))))) (pw_or1 (pt_not (pt_val (pe_callB call_isi (by rfl) T.b_isinstance (by decide +kernel) (pa_cons (pe_fld (pv 0) rfl) (pa_cons (pe_bltn (v := .ty "tuple") (by rfl) T.b_tuple (by decide +kernel) rfl) pa_nil)))))))) (pss_one (ps_ret pe_bl)) pss_nil)
      (pss_cons (ps_if (PW.pt (pw_or (pt_cmpR (op_neD hr.units) (pe_lc (own := [("_law_one", 3)]) (g := gName 3) (by rfl) sc_fits.nd (pi_tup (pe_fld (pv 0) rfl)) (blkOk_by (own := [("_law_one", 3)]) (N := N_fits) (sc := defScope s_fits) (by decide +kernel)) (fun _ _ _ _ _ => (pg_name (i := 3) sc_fits.nd rfl (Or.inl rfl))) (fun _ _ _ _ _ => pts_nil) (fun _ _ _ _ _ => (Way.kk_fld (K := K) (pv 3) rfl))) (pv 2) (nomark _)) (pw_or1 (pt_cmpR (op_neD hr.units) (pe_lc (own := [("_law_one", 3)]) (g := gName 3) (by rfl) sc_fits.nd (Way.pi_own (pv 0) T.it_Profile G_Profile_iter (hr.mono (by decide))) (blkOk_by (own := [("_law_one", 3)]) (N := N_fits) (sc := defScope s_fits) (by decide +kernel)) (fun _ _ _ _ _ => (pg_name (i := 3) sc_fits.nd rfl (Or.inl rfl))) (fun _ _ _ _ _ => pts_nil) (fun _ _ _ _ _ => (Way.kk_fld (K := K) (pv 3) rfl))) (pv 2) (nomark _))))) (pss_one (ps_ret pe_bl)) pss_nil)
      (pss_cons (ps_for PassesOwn.never rfl (pi_list (pe_call0 G_eight (hr.mono (by decide)) (by rfl) T.g_eight T.F_eight.kp T.B_eight .nil pass0)) (pg_name (i := 3) sc_fits.nd rfl (Or.inl rfl)) (pss_one (ps_if (pt_not (pt_val (pe_call G_is (hr.mono (by decide)) (by rfl) T.g_is T.F_is.kp T.B_is .nil pass0 (pa_cons (pe_cmpR (Way.op_inO G_Profile_contains T.m_Profile_contains.at_ T.m_Profile_contains.fn T.B_Profile_contains pass0 (hr.mono (by decide))) (pe_call G_manners (hr.mono (by decide)) (by rfl) T.g_manners T.F_manners.kp T.B_manners .nil pass0 (pa_cons (pv 3) pa_nil)) (pv 0) (by rfl)) (pa_cons (pe_cmpR (Way.kk_inD (K := K) (hr.mono (by decide))) (pv 3) (pv 1) (by rfl)) pa_nil))))) (pss_one (ps_ret pe_bl)) pss_nil)))
      (pss_cons (ps_set (i := 4) sc_fits.nd rfl (Or.inl rfl) (pe_meth0 (pv 0) T.cl_Profile T.m_Profile_greatest G_Profile_greatest (hr.mono (by decide)) T.B_Profile_greatest .nil pass0))
      (pss_cons (ps_if (PW.pt (pw_or (pt_not (pt_val (pe_callB call_isi (by rfl) T.b_isinstance (by decide +kernel) (pa_cons (pv 4) (pa_cons (pe_bltn (v := .ty "list") (by rfl) T.b_list (by decide +kernel) rfl) pa_nil))))) (pw_or1 (pt_cmpR (op_neD hr.units) (pe_lc (own := [("_law_one", 3)]) (g := gName 3) (by rfl) sc_fits.nd (pi_list (pv 4)) (blkOk_by (own := [("_law_one", 3)]) (N := N_fits) (sc := defScope s_fits) (by decide +kernel)) (fun _ _ _ _ _ => (pg_name (i := 3) sc_fits.nd rfl (Or.inl rfl))) (fun _ _ _ _ _ => pts_nil) (fun _ _ _ _ _ => (Way.kk_fld (K := K) (pv 3) rfl))) (pe_call G_greatest (hr.mono (by decide)) (by rfl) T.g_greatest T.F_greatest.kp T.B_greatest .nil pass0 (pa_cons (pv 1) pa_nil)) (nomark _))))) (pss_one (ps_ret pe_bl)) pss_nil)
      (pss_cons (ps_expr (pe_bm PySem.F.plainAttrs_list PySem.F.slot_list_append PySem.F.type_list_append mt_append (pv 4) (pa_cons (StX.pe_makeR T.M_Manners G_Manners_init (hr.mono (by decide)) (by rfl) T.g_Manners pass0 (pa_cons pe_str pa_nil)) pa_nil)))
      (pss_cons (ps_if (pt_cmpR (op_neD hr.units) (pe_lc (own := [("_law_one", 3)]) (g := gName 3) (by rfl) sc_fits.nd (pi_list (pe_meth0 (pv 0) T.cl_Profile T.m_Profile_greatest G_Profile_greatest (hr.mono (by decide)) T.B_Profile_greatest .nil pass0)) (blkOk_by (own := [("_law_one", 3)]) (N := N_fits) (sc := defScope s_fits) (by decide +kernel)) (fun _ _ _ _ _ => (pg_name (i := 3) sc_fits.nd rfl (Or.inl rfl))) (fun _ _ _ _ _ => pts_nil) (fun _ _ _ _ _ => (Way.kk_fld (K := K) (pv 3) rfl))) (pe_call G_greatest (hr.mono (by decide)) (by rfl) T.g_greatest T.F_greatest.kp T.B_greatest .nil pass0 (pa_cons (pv 1) pa_nil)) (nomark _)) (pss_one (ps_ret pe_bl)) pss_nil)
      (pss_one (ps_ret (pe_and (pe_call G_is (hr.mono (by decide)) (by rfl) T.g_is T.F_is.kp T.B_is .nil pass0 (pa_cons (pe_callB (Way.call_lenO G_Profile_len T.m_Profile_len.at_ T.m_Profile_len.fn T.B_Profile_len pass0 (hr.mono (by decide))) (by rfl) T.b_len (by decide +kernel) (pa_cons (pv 0) pa_nil)) (pa_cons (pe_callB call_len_seq (by rfl) T.b_len (by decide +kernel) (pa_cons (pv 1) pa_nil)) pa_nil))) (pe_one (pe_call G_is (hr.mono (by decide)) (by rfl) T.g_is T.F_is.kp T.B_is .nil pass0 (pa_cons (pe_prop (pv 0) T.cl_Profile T.pr_Profile_is_quiet G_Profile_is_quiet (hr.mono (by decide)) T.B_Profile_is_quiet .nil pass0 rfl) (pa_cons (pe_cmpR (op_eqD hr.units) (pv 1) (pe_lst pa_nil) (nomark _)) pa_nil))))))))))))))), ?_⟩
    have s8 := hF.sz
    have t8 := hF.tz
    refine n_asg (en_map (ev_var rfl) hv (by omega)) fun p1 H1 n1 X1 h1 => ?_
    have hu1 := pAt_mono X1 hu
    have hv1 := hv.mono tAt_mono X1
    obtain ⟨x, dx, t, rfl, hx, ⟨t', xs, et, ht, hp⟩⟩ := id hu1
    cases et
    refine q_when (b := false) (et_is (et_or (et_not (et_B (ev_cb (ea_cons (ev_var rfl) (ea_cons ev_c ea_nil)) (rc_isi (.own _) (fun H2 X2 => T.ic_Profile.ty T.cl_Profile (X2 _ _ hx)) kit_self)))) fun _ => et_not (et_B (ev_cb (ea_cons (ev_fld (ev_var rfl) hx T.cl_Profile T.na_Profile_least_sets rfl) (ea_cons ev_c ea_nil)) (rc_isi (.ty _) (ty_tup ht) (kit_ty (r := true) (by decide +kernel)))))) rfl) (fun q => nomatch q) fun _ H2 X2 => ?_
    have hu2 := pAt_mono X2 hu1
    have h2 := h1.mono tAt_mono X2
    refine q_when (b := false) (et_is (et_or (et_test (ev_neP (en_mapT (K := K) (P := MAt T.C_Manners) (R := TAt) (c := id) mAt_mono tAt_stay (ev_fld (ev_var rfl) (X2 _ _ hx) T.cl_Profile T.na_Profile_least_sets rfl) (st_of (X2 _ _ ht)) (Paired.mapP hp fun _ _ z => mAt_mono _ _ _ _ X2 z) (by omega) (fun _ => rfl) fun y i H3 X3 hi py => ex_names (cl := T.cl_Manners) (na := T.na_Manners_names) (ev_var rfl) py).x (EvX.of (ev_var rfl) fun H3 X3 => h2.mono tAt_mono X3))) fun _ => et_test (ev_neP (en_mapO (K := K) (R := TAt) (c := id) tAt_stay (ev_var rfl) hu2 (by omega) (fun _ => rfl) fun y i H3 X3 hi py => ex_names (cl := T.cl_Manners) (na := T.na_Manners_names) (ev_var rfl) py).x (EvX.of (ev_var rfl) fun H3 X3 => h2.mono tAt_mono X3))) ?_) (fun q => nomatch q) fun _ H3 X3 => ?_
    · rw [List.map_id, ← hF.le]
      simp
    have X13 := X2.trans X3
    have hu3 := pAt_mono X3 hu2
    have hv3 := hv1.mono tAt_mono X13
    refine x_forL (K := K) en_eight (fun l ys k σ H' => ∃ v3, σ = [some (.ref x), some v, some (.ref p1), v3, none] ∧ Ex H3 H' ∧ H' l = some (.lst ys) ∧ Paired (fun y i => TAt i y H') ys all8) ?_ ?_ ?_ ?_
    · intro l ys H4 n4 X4 h4 p4
      exact ⟨none, rfl, X4, h4, p4⟩
    · rintro l ys k σ H' ⟨v3, _, _, h, _⟩
      exact h
    · rintro l ys k y σ H' hy ⟨v3, rfl, X4, h4, p4⟩
      obtain ⟨c, hc, pc⟩ := pr_at p4 hy
      refine s_when (b := false) (et_is (et_not (et_B (ev_isB (ev_inMan (ev_var rfl) pc (ev_var rfl) (pAt_mono X4 hu3) (by omega)) (ev_op (ev_var rfl) (ev_var rfl) (rv_inT' (neg := false) (hv3.mono tAt_mono X4) pc))))) ?_) (fun q => nomatch q) fun _ H5 X5 => ⟨_, rfl, X4.trans X5, X5 _ _ h4, Paired.mapP p4 fun _ _ z => tAt_mono _ _ _ _ X5 z⟩
      have := hF.ct c
      simp only [Bool.false_eq_true, if_false]
      rw [decide_eq_true this]
      rfl
    · rintro l ys σ H4 ⟨v3, rfl, X4, _, _⟩
      have hu4 := pAt_mono X4 hu3
      have hv4 := hv3.mono tAt_mono X4
      have X04 := (X1.trans X13).trans X4
      have gl := great_len S
      refine n_asg (en_great (ev_var rfl) hu4 (by omega)) fun g H5 n5 X5 h5 => ?_
      have h5' := h5
      obtain ⟨g', gs, eg, hg5, _⟩ := h5'
      cases eg
      refine q_when (b := false) (et_is (et_or (et_not (et_B (ev_cb (ea_cons (ev_var rfl) (ea_cons ev_c ea_nil)) (rc_isi (.ty _) (ty_lst hg5) (kit_ty (r := true) (by decide +kernel)))))) fun _ => et_test (ev_neP (en_mapL (K := K) (P := MAt T.C_Manners) (R := TAt) (c := id) mAt_mono tAt_stay (ev_var rfl) h5 (by omega) (fun _ => rfl) fun y i H6 X6 hi py => ex_names (cl := T.cl_Manners) (na := T.na_Manners_names) (ev_var rfl) py).x (en_map (ev_var rfl) (hv4.mono tAt_mono X5) (by omega)).x)) ?_) (fun q => nomatch q) fun _ H6 X6 => ?_
      · rw [List.map_id, ← hF.gr]
        simp
      refine x_appQ (P := MAt T.C_Manners) (c := 3) mAt_mono mAt_stay (ev_var rfl) (h5.mono mAt_mono X6) (ex_makeR (i := 3) (ea_cons ev_c ea_nil)) (by omega) fun H7 K7 h7 => ?_
      have X7 : Ex H4 H7 := kp_ex n5 (X5.trans X6) K7
      have hu7 := pAt_mono X7 hu4
      have hv7 := hv4.mono tAt_mono X7
      refine q_when (b := false) (et_is (et_test (ev_neP (en_mapN (K := K) (P := MAt T.C_Manners) (R := TAt) (c := id) mAt_mono tAt_stay (en_great (ev_var rfl) hu7 (by omega)) (by omega) (fun _ => rfl) fun y i H8 X8 hi py => ex_names (cl := T.cl_Manners) (na := T.na_Manners_names) (ev_var rfl) py).x (en_map (ev_var rfl) hv7 (by omega)).x)) ?_) (fun q => nomatch q) fun _ H8 X8 => ?_
      · rw [List.map_id, ← hF.gr]
        simp
      have hu8 := pAt_mono X8 hu7
      have hv8 := hv7.mono tAt_mono X8
      obtain ⟨r, rs, er, hr8, pr8⟩ := id hv8
      subst er
      have rl : rs.length = R.length := Paired.length pr8
      refine s_ret (v := .bl true) (ev_is (ev_andV (ev_isI (ev_lenO (ev_var rfl) hu8 (by omega)) (ev_cb (ea_cons (ev_var rfl) ea_nil) (rc_lenL (K := K) (sq_of hr8)))) fun _ => ev_isB (ev_quiet (ev_var rfl) hu8) (ev_eqP (EvX.of (ev_var rfl) fun H9 X9 => hv8.mono tAt_mono X9) (ex_nil tAt_mono))) ?_) fun H9 X9 => kont H9 ((X04.trans X7).trans (X8.trans X9))
      rw [hF.ln, rl, hF.em]
      simp
end
end K82

namespace K82
open PySem L2 Way Evl
section
variable {X : Cx} {K : PySem.W.Frag} {mg : Str → Option Value}
theorem kk_eqPf (T : Txt K mg) (G : FnOk X.prog X.w X.K X.mg X.base CX0 3 T.f_Profile_eq T.d_Profile_eq P_Profile_eq (spEqB (RP T.C_Profile T.C_Manners))) (hr : Room 3 X.A) (h : X.K = K := by rfl) : OpR X (compareOp .Eq) (rEqB (DOwn K T.C_Profile (RP T.C_Profile T.C_Manners))) := by
  subst h
  exact op_eqB (rcB_own (E := fun _ _ _ => False) G T.m_Profile_eq.at_ T.m_Profile_eq.fn T.B_Profile_eq pass0) hr
theorem rv_eqPP (T : Txt K mg) {S S' : List Cd} {u v : V} {H : Hp} (hu : PAt T.C_Profile T.C_Manners S u H) (hv : PAt T.C_Profile T.C_Manners S' v H) : RV (rEqB (DOwn K T.C_Profile (RP T.C_Profile T.C_Manners))) u v H (.bl (decide (S = S'))) := fun H1 e Q q => by
  have hu1 := pAt_mono e hu
  have hv1 := pAt_mono e hv
  obtain ⟨x, dx, t, rfl, hx, _⟩ := id hu1
  obtain ⟨y, dy, t', rfl, hy, _⟩ := id hv1
  exact ⟨_, ⟨x, dx, _, .ref T.C_Profile, rfl, hx, T.ic_Profile.ty T.cl_Profile hy, notFirst_self, S, hu1, .inl ⟨S', hv1, rfl⟩⟩, fun H2 e2 => q H2 e2⟩
theorem rv_eqPT (T : Txt K mg) {S : List Cd} {u : V} {H : Hp} {p : Addr} {xs : List V} (hu : PAt T.C_Profile T.C_Manners S u H) (hp : H p = some (.tup xs)) : RV (rEqB (DOwn K T.C_Profile (RP T.C_Profile T.C_Manners))) u (.ref p) H (.bl false) := fun H1 e Q q => by
  have hu1 := pAt_mono e hu
  obtain ⟨x, dx, t, rfl, hx, _⟩ := id hu1
  obtain ⟨l, e1, e2⟩ := mro_tup
  exact ⟨_, ⟨x, dx, _, .type "tuple", rfl, hx, ty_tup hp H1 e, notFirst_no e1 e2, S, hu1, .inr ⟨⟨p, xs, rfl, .inl (e _ _ hp)⟩, rfl⟩⟩, fun H2 e2 => q H2 e2⟩
theorem rv_eqPL (T : Txt K mg) {S : List Cd} {u : V} {H : Hp} {p : Addr} {xs : List V} (hu : PAt T.C_Profile T.C_Manners S u H) (hp : H p = some (.lst xs)) : RV (rEqB (DOwn K T.C_Profile (RP T.C_Profile T.C_Manners))) u (.ref p) H (.bl false) := fun H1 e Q q => by
  have hu1 := pAt_mono e hu
  obtain ⟨x, dx, t, rfl, hx, _⟩ := id hu1
  obtain ⟨l, e1, e2⟩ := mro_lst
  exact ⟨_, ⟨x, dx, _, .type "list", rfl, hx, ty_lst hp H1 e, notFirst_no e1 e2, S, hu1, .inr ⟨⟨p, xs, rfl, .inr (e _ _ hp)⟩, rfl⟩⟩, fun H2 e2 => q H2 e2⟩
end
section
variable {K : PySem.W.Frag} {σ : L2.St} {H : Hp} {ta te tb tl : TE} {S S' T : List Cd} {i j : Cd} {E : XK} {CP CM : Addr} {tz : TS} {D : Ends}
theorem lat_kp {P : Cd → V → Hp → Prop} {l p : Addr} {acc : List V} {H' : Hp} (st : Stay P) (h : LAt P S (.ref l) H) (n : l ≠ p) (hp : H p = some (.lst acc)) (k : Kp p H H') : LAt P S (.ref l) H' := by
  obtain ⟨l', xs, el, h1, h2⟩ := h
  cases el
  exact ⟨l, xs, rfl, k _ _ n h1, Paired.mapP h2 fun _ _ z => st _ _ _ _ p acc hp k z⟩
theorem pat_kp {v : V} {p : Addr} {acc : List V} {H' : Hp} (h : PAt CP CM S v H) (hp : H p = some (.lst acc)) (k : Kp p H H') : PAt CP CM S v H' := by
  obtain ⟨x, dx, t, rfl, hx, ⟨t', xs, et, ht, h2⟩⟩ := h
  cases et
  exact ⟨x, dx, t, rfl, k _ _ (fun z => by rw [z, hp] at hx; cases hx) hx, t, xs, rfl, k _ _ (fun z => by rw [z, hp] at ht; cases ht) ht, Paired.mapP h2 fun _ _ z => mAt_stay _ _ _ _ p acc hp k z⟩
theorem ex_man {v : V} (h : Ev te σ H v) (hv : TAt i v H) : EvX (tCall (spMan CM) [] E (tCons te tNil)) σ H (MAt CM i) := fun H1 e Q q => h H1 e _ fun H2 e2 => ⟨v, i, rfl, tAt_mono _ _ _ _ (e.trans e2) hv, fun w H3 e3 hw => q w H3 (e2.trans e3) hw⟩
theorem ex_orP {u v : V} (h : Ev ta σ H u) (hu : PAt CP CM S u H) (h2 : Ev tb σ H v) (hv : PAt CP CM S' v H) (hz : S.length ≤ 20) (hz' : S'.length ≤ 20) : EvX (tOp (rBinO CP (spPOr CP CM) E) ta tb) σ H (PAt CP CM (prof (S ++ S'))) := fun H1 e Q q => h H1 e _ fun H2 e2 => h2 H2 (e.trans e2) _ fun H3 e3 => by
  have e4 := (e.trans e2).trans e3
  have hu1 := pAt_mono e4 hu
  have hv1 := pAt_mono e4 hv
  obtain ⟨x, dx, t, rfl, hx, _⟩ := id hu1
  obtain ⟨y, dy, t', rfl, hy, _⟩ := id hv1
  exact ⟨x, y, dx, dy, _, _, rfl, rfl, hx, hy, _, _, S, S', rfl, hu1, hz, hv1, hz', fun w H5 e5 hw => q w H5 ((e2.trans e3).trans e5) hw⟩
theorem ex_andP {u v : V} (h : Ev ta σ H u) (hu : PAt CP CM S u H) (h2 : Ev tb σ H v) (hv : PAt CP CM S' v H) (hz : S.length ≤ 20) (hz' : S'.length ≤ 20) : EvX (tOp (rBinO CP (spPAnd CP CM) E) ta tb) σ H (PAt CP CM (prof (S.flatMap fun a => S'.map (orI a)))) := fun H1 e Q q => h H1 e _ fun H2 e2 => h2 H2 (e.trans e2) _ fun H3 e3 => by
  have e4 := (e.trans e2).trans e3
  have hu1 := pAt_mono e4 hu
  have hv1 := pAt_mono e4 hv
  obtain ⟨x, dx, t, rfl, hx, _⟩ := id hu1
  obtain ⟨y, dy, t', rfl, hy, _⟩ := id hv1
  exact ⟨x, y, dx, dy, _, _, rfl, rfl, hx, hy, _, _, S, S', rfl, hu1, hz, hv1, hz', fun w H5 e5 hw => q w H5 ((e2.trans e3).trans e5) hw⟩
theorem ev_fits (h : EvX ta σ H (PAt CP CM S)) (h2 : EvX tb σ H (LAt TAt T)) (f : Fit S T) : Ev (tCall (spFits CP CM) [] E (tCons ta (tCons tb tNil))) σ H (.bl true) := fun H1 e Q q => h H1 e _ fun u H2 e2 hu => h2 H2 (e.trans e2) _ fun v H3 e3 hv => ⟨u, v, S, T, rfl, pAt_mono e3 hu, hv, f, fun H4 e4 => q H4 ((e2.trans e3).trans e4)⟩
theorem ev_pwith {u v : V} (h : Ev ta σ H u) (hu : PAt CP CM S u H) (h2 : Ev tb σ H v) (hv : PAt CP CM S' v H) (hz : S.length ≤ 500) (hz' : S'.length ≤ 500) : Ev (tMeth CP "within" (spPWith CP CM) [] E ta (tCons tb tNil)) σ H (.bl ((S.map fun i => cont S' i).all id)) := by
  obtain ⟨x, dx, t, rfl, hx, _⟩ := id hu
  exact ev_meth h hx rfl (ea_cons h2 ea_nil) fun H1 e Q q E' => ⟨_, _, S, S', rfl, pAt_mono e hu, hz, pAt_mono e hv, hz', fun H2 e2 => q H2 e2⟩
theorem en_listIt {u : V} (h : Ev te σ H u) (hu : PAt CP CM S u H) (hz : S.length ≤ 500) : EvN (tCB (rListIt K CP "least_sets" (spLen CP CM) E) (tCons te tNil)) σ H (LAt (MAt CM) S) := fun H1 e Q q => h H1 e _ fun H2 e2 => by
  have hu2 := pAt_mono (e.trans e2) hu
  obtain ⟨x, dx, t, rfl, hx, ⟨t', xs, et, ht, hp⟩⟩ := id hu2
  cases et
  have hl : (all8.filter fun i => cont S i).length ≤ 8 := List.length_filter_le _ all8
  have l1 : xs.length = S.length := Paired.length hp
  refine ⟨x, dx, t, _, xs, rfl, hx, rfl, st_of ht, by omega, fun r hr => ⟨_, S, rfl, pAt_mono (Ex.new hr) hu2, hz, fun H3 e3 => ⟨_, rfl, ⟨by omega, by omega⟩, by omega, e3, ?_⟩⟩⟩
  have hr3 : H3 r = some (.lst []) := e3 _ _ upd_same
  have e23 : Ex H2 H3 := (Ex.new hr).trans e3
  refine q r _ (fresh_back e2 hr) (fun b o z => ?_) ⟨r, xs, rfl, upd_same, Paired.mapP hp fun _ _ z => mAt_stay _ _ _ _ r [] hr3 (Kp.set (Kp.refl _ _)) (mAt_mono _ _ _ _ e23 z)⟩
  have z2 := e2 _ _ z
  exact (upd_ne (ne_of_none z2 hr)).trans (e23 _ _ z2)
theorem x_par {i j : Nat} {P1 P2 : V → Hp → Prop} (m : ∀ v H H', Ex H H' → P1 v H → P1 v H') (h : EvX ta σ H P1) (h2 : EvX tb σ H P2) (k : ∀ u v H1, Ex H H1 → P1 u H1 → P2 v H1 → tz D ((σ.set i (some u)).set j (some v)) H1) : tSeq (tPar i j (tCons ta (tCons tb tNil))) tz D σ H :=
  h H (Ex.refl H) _ fun u H1 e1 p1 => h2 H1 e1 _ fun v H2 e2 p2 => ⟨u, v, rfl, k u v H2 (e1.trans e2) (m _ _ _ e2 p1) p2⟩
theorem x_parT {i j : Nat} {P1 P2 : V → Hp → Prop} (m : ∀ v H H', Ex H H' → P1 v H → P1 v H') (m2 : ∀ v H H', Ex H H' → P2 v H → P2 v H') (h : EvX ta σ H P1) (h2 : EvX tb σ H P2) (k : ∀ u v H1, Ex H H1 → P1 u H1 → P2 v H1 → tz D ((σ.set i (some u)).set j (some v)) H1) : tSeq (tAsg (tTup (tCons ta (tCons tb tNil))) (gTup K 2 (gCons (gName i) (gCons (gName j) gNil)))) tz D σ H :=
  h H (Ex.refl H) _ fun u H1 e1 p1 => h2 H1 e1 _ fun v H2 e2 p2 => ⟨sz_of (Nat.le_of_ble_eq_true rfl), fun t ht => ⟨t, _, rfl, SqT.of upd_same, rfl, _, _, rfl, _, _, rfl, rfl, k u v _ ((e1.trans e2).trans (Ex.new ht)) (m _ _ _ (e2.trans (Ex.new ht)) p1) (m2 _ _ _ (Ex.new ht) p2)⟩⟩
theorem ev_opX {r : R2} {u z : V} {P : V → Hp → Prop} (h : Ev ta σ H u) (h2 : EvX tb σ H P) (hr : ∀ v H1, Ex H H1 → P v H1 → RV r u v H1 z) : Ev (tOp r ta tb) σ H z := fun H1 e Q q => h H1 e _ fun H2 e2 => h2 H2 (e.trans e2) _ fun v H3 e3 p => hr v H3 ((e.trans e2).trans e3) p H3 (Ex.refl H3) Q fun H4 e4 => q H4 ((e2.trans e3).trans e4)
theorem rc_max {i j : Int} : RC (fun xs H Q => ∃ i j, xs = [V.int i, V.int j] ∧ Q (.int (if j > i then j else i)) H) [.int i, .int j] H (.int (if j > i then j else i)) := fun H1 _ _ q => ⟨_, _, rfl, q H1 (Ex.refl H1)⟩
theorem rc_min {i j m : Int} (e : j = m) : RC (fun xs H Q => ∃ i j, xs = [V.int i, V.int j] ∧ Q (.int (if j < i then j else i)) H) [.int i, .int j] H (.int (if m < i then m else i)) := fun H1 _ _ q => ⟨_, _, rfl, by rw [e]; exact q H1 (Ex.refl H1)⟩
theorem q_parAny {i j : Nat} {ta : TA} (h : ta σ H fun vs H1 => ∃ v w, vs = [v, w] ∧ tz D ((σ.set i (some v)).set j (some w)) H1) : tSeq (tPar i j ta) tz D σ H := h
theorem q_ifMake {i : Nat} {t : TT} {R : Hp → Prop} {P : V → Hp → Prop} (h : ∀ Q : Bool → Hp → Prop, (∀ b H1, R H1 → Q b H1) → t σ H Q) (h1 : ∀ H1, R H1 → EvX ta σ H1 P) (h2 : ∀ H1, R H1 → EvX tb σ H1 P) (k : ∀ v H1 H2, R H1 → Ex H1 H2 → P v H2 → tz D (σ.set i (some v)) H2) : tSeq (tAsg (tIf t ta tb) (gName i)) tz D σ H :=
  h _ fun b H1 r => by
    cases b with
    | true => exact h1 H1 r H1 (Ex.refl H1) _ fun v H2 e p => k v H1 H2 r e p
    | false => exact h2 H1 r H1 (Ex.refl H1) _ fun v H2 e p => k v H1 H2 r e p
theorem ex_seqU {v : V} (h : Ev te σ H v) (hv : LAt (MAt CM) S v H) : EvX (tCB (fun xs H Q => ∃ p ys, xs = [.ref p] ∧ ((SqL K H p ys ∧ ∀ l, H l = none → Q (.ref l) (upd H l (.tup ys))) ∨ (SqT K H p ys ∧ Q (.ref p) H))) (tCons te tNil)) σ H (SeqM K CM S) := fun H1 e Q q => h H1 e _ fun H2 e2 => by
  obtain ⟨p, xs, rfl, h1, h2⟩ := hv.mono mAt_mono (e.trans e2)
  exact ⟨p, xs, rfl, .inl ⟨sq_of h1, fun l hl => q _ _ (e2.trans (Ex.new hl)) ⟨l, xs, rfl, .inr (st_of upd_same), Paired.mapP h2 fun _ _ z => mAt_mono _ _ _ _ (Ex.new hl) z⟩⟩⟩
end
def spLaw (K : PySem.W.Frag) : Sp := fun vs H Q _ => ∃ (a : Addr) (ns : List Int), vs = [.ref a] ∧ SqL K H a (ns.map V.int) ∧ ns.length ≤ 63 ∧ ∀ H', Q (.bl true) H'
section
variable {P : Program} {w : World} {K : PySem.W.Frag} {mg : Str → Option Value} {base : Heap}
set_option maxHeartbeats 16000000 in
theorem ok_law (T : Txt K mg) : FnOk P w K mg base CX0 8 T.f_law T.d_law P_law (spLaw K) := by
  have G_bag := ok_bag (P := P) (w := w) (base := base) T
  have G_sets := ok_sets (P := P) (w := w) (base := base) T
  have G_manners := ok_manners (P := P) (w := w) (base := base) T
  have G_telling := ok_telling (P := P) (w := w) (base := base) T
  have G_fits := ok_fits (P := P) (w := w) (base := base) T
  have G_is := ok_is (P := P) (w := w) (base := base) T
  have G_take := ok_take (P := P) (w := w) (base := base) T
  have G_eight := ok_eight (P := P) (w := w) (base := base) T
  have G_Profile_init := ok_Profile_init (P := P) (w := w) (base := base) T
  have G_Manners_init := ok_Manners_init (P := P) (w := w) (base := base) T
  have G_Profile_within := ok_Profile_within (P := P) (w := w) (base := base) T
  have G_Profile_eq := ok_Profile_eq (P := P) (w := w) (base := base) T
  have G_Profile_or := ok_Profile_or (P := P) (w := w) (base := base) T
  have G_Profile_and := ok_Profile_and (P := P) (w := w) (base := base) T
  have G_Profile_len := ok_Profile_len (P := P) (w := w) (base := base) T
  have G_Profile_iter : ItFn P w K mg base 4 T.f_Profile_iter T.C_Profile "least_sets" := itFn_of T.F_Profile_iter sc_Profile_iter rfl rfl rfl T.b_iter T.cl_Profile T.na_Profile_least_sets T.B_Profile_iter
  obtain ⟨ds1, bd_Profile_init_1⟩ := bdP1 T
  obtain ⟨ds0, bd_Profile_init_0⟩ := bdP0 T
  refine T.F_law.ok sc_law (fun vs H Q E h => ?_) (fun cdv A outer s H vs Q E hr h => ?_)
  · obtain ⟨a, ns, rfl, _⟩ := h
    rfl
  · obtain ⟨a, ns, rfl, hS, hlen, kont⟩ := h
    refine ⟨_, (pss_cons (ps_for PassesOwn.never rfl (pi_range1 (by rfl) T.b_range (pa_cons (pe_callB (call_max2 rfl) (by rfl) T.b_max (by decide +kernel) (pa_cons pe_int (pa_cons (pe_callB (call_min2 rfl) (by rfl) T.b_min (by decide +kernel) (pa_cons pe_int (pa_cons (pe_callB call_len_seq (by rfl) T.b_len (by decide +kernel) (pa_cons (pv 0) pa_nil)) pa_nil))) pa_nil))) pa_nil)) (pg_name (i := 1) sc_law.nd rfl (Or.inl rfl)) (pss_cons (ps_set (i := 2) sc_law.nd rfl (Or.inl rfl) (pe_call G_bag (hr.mono (by decide)) (by rfl) T.g_bag T.F_bag.kp T.B_bag .nil pass0 (pa_cons (pv 0) (pa_cons (pv 1) pa_nil))))
      (pss_cons (ps_par (i := 3) (j := 4) (by rfl) sc_law.nd rfl rfl (by decide) rfl rfl (pa_cons (pe_call G_sets (hr.mono (by decide)) (by rfl) T.g_sets T.F_sets.kp T.B_sets .nil pass0 (pa_cons (pv 2) pa_nil)) (pa_cons (pe_call G_sets (hr.mono (by decide)) (by rfl) T.g_sets T.F_sets.kp T.B_sets .nil pass0 (pa_cons (pv 2) pa_nil)) pa_nil)) (by rfl))
      (pss_cons (ps_setLc (i := 5) (own := [("_law_one", 6)]) (g := gName 6) (by rfl) sc_law.nd rfl rfl (sw_true rfl rfl rfl (by decide +kernel)) (pi_list (pv 3)) (blkOk_by (own := [("_law_one", 6)]) (N := N_law) (sc := defScope s_law) (by decide +kernel)) (fun _ _ _ _ _ => (pg_name (i := 6) sc_law.nd rfl (Or.inl rfl))) (fun _ _ _ _ _ => pts_nil) (fun _ _ _ _ _ => (pe_call G_manners (hr.mono (by decide)) (by rfl) T.g_manners T.F_manners.kp T.B_manners .nil pass0 (pa_cons (pv 6) pa_nil))))
      (pss_cons (ps_set (i := 6) sc_law.nd rfl (Or.inl rfl) (pe_ifExp (pt_cmpR op_eq (pe_call G_take (hr.mono (by decide)) (by rfl) T.g_take T.F_take.kp T.B_take .nil pass0 (pa_cons (pv 2) (pa_cons pe_int pa_nil))) pe_int (nomark _)) (pe_make T.M_Profile G_Profile_init (hr.mono (by decide)) (by rfl) T.g_Profile bd_Profile_init_1.2 bd_Profile_init_1.1 pass0 (pa_cons (pe_callTy call_tuple_of (by rfl) T.b_tuple (by decide +kernel) (pa_cons (pv 5) pa_nil)) pa_nil)) (pe_make T.M_Profile G_Profile_init (hr.mono (by decide)) (by rfl) T.g_Profile bd_Profile_init_1.2 bd_Profile_init_1.1 pass0 (pa_cons (pv 5) pa_nil))))
      (pss_cons (ps_set (i := 7) sc_law.nd rfl (Or.inl rfl) (pe_make T.M_Profile G_Profile_init (hr.mono (by decide)) (by rfl) T.g_Profile bd_Profile_init_1.2 bd_Profile_init_1.1 pass0 (pa_cons (pe_lc (own := [("_law_each", 10)]) (g := gName 10) (by rfl) sc_law.nd (pi_list (pv 4)) (blkOk_by (own := [("_law_each", 10)]) (N := N_law) (sc := defScope s_law) (by decide +kernel)) (fun _ _ _ _ _ => (pg_name (i := 10) sc_law.nd rfl (Or.inl rfl))) (fun _ _ _ _ _ => pts_nil) (fun _ _ _ _ _ => (pe_call G_manners (hr.mono (by decide)) (by rfl) T.g_manners T.F_manners.kp T.B_manners .nil pass0 (pa_cons (pv 10) pa_nil)))) pa_nil)))
      (pss_cons (ps_if (pt_cmpR (op_neD hr.units) (pe_lc (own := [("_law_each", 10)]) (g := gName 10) (by rfl) sc_law.nd (pi_list (pv 5)) (blkOk_by (own := [("_law_each", 10)]) (N := N_law) (sc := defScope s_law) (by decide +kernel)) (fun _ _ _ _ _ => (pg_name (i := 10) sc_law.nd rfl (Or.inl rfl))) (fun _ _ _ _ _ => pts_nil) (fun _ _ _ _ _ => (Way.kk_fld (K := K) (pv 10) rfl))) (pv 3) (nomark _)) (pss_one (ps_ret pe_bl)) pss_nil)
      (pss_cons (ps_expr (pe_bm PySem.F.plainAttrs_list PySem.F.slot_list_append PySem.F.type_list_append mt_append (pv 5) (pa_cons (Way.pe_makeR0 T.M_Manners G_Manners_init (hr.mono (by decide)) (by rfl) T.g_Manners pass0) pa_nil)))
      (pss_cons (ps_asg (pe_tup (pa_cons (pe_call G_telling (hr.mono (by decide)) (by rfl) T.g_telling T.F_telling.kp T.B_telling .nil pass0 (pa_cons (pv 3) pa_nil)) (pa_cons (pe_call G_telling (hr.mono (by decide)) (by rfl) T.g_telling T.F_telling.kp T.B_telling .nil pass0 (pa_cons (pv 4) pa_nil)) pa_nil))) (pg_tup rfl (pgs_cons (pg_name (i := 8) sc_law.nd rfl (Or.inr rfl)) (pgs_cons (pg_name (i := 9) sc_law.nd rfl (Or.inr rfl)) pgs_nil))))
      (pss_cons (ps_if (PW.pt (pw_or (pt_not (pt_val (pe_call G_fits (hr.mono (by decide)) (by rfl) T.g_fits T.F_fits.kp T.B_fits .nil pass0 (pa_cons (pv 6) (pa_cons (pv 8) pa_nil))))) (pw_or (pt_not (pt_val (pe_call G_fits (hr.mono (by decide)) (by rfl) T.g_fits T.F_fits.kp T.B_fits .nil pass0 (pa_cons (pv 7) (pa_cons (pv 9) pa_nil))))) (pw_or1 (pt_not (pt_val (pe_call G_fits (hr.mono (by decide)) (by rfl) T.g_fits T.F_fits.kp T.B_fits .nil pass0 (pa_cons (pe_make0 T.M_Profile G_Profile_init (hr.mono (by decide)) (by rfl) T.g_Profile bd_Profile_init_0.2 bd_Profile_init_0.1 pass0) (pa_cons (pe_lst pa_nil) pa_nil))))))))) (pss_one (ps_ret pe_bl)) pss_nil)
      (pss_cons (ps_if (pt_not (pt_val (pe_call G_fits (hr.mono (by decide)) (by rfl) T.g_fits T.F_fits.kp T.B_fits .nil pass0 (pa_cons (pe_op (Way.op_binO G_Profile_or T.ic_Profile.sf T.m_Profile_or.at_ T.m_Profile_or.fn T.B_Profile_or pass0 (hr.mono (by decide))) (pv 6) (pv 7)) (pa_cons (pe_lc (own := [("_law_each", 10)]) (g := gName 10) (by rfl) sc_law.nd (pi_list (pe_call0 G_eight (hr.mono (by decide)) (by rfl) T.g_eight T.F_eight.kp T.B_eight .nil pass0)) (blkOk_by (own := [("_law_each", 10)]) (N := N_law) (sc := defScope s_law) (by decide +kernel)) (fun _ _ _ _ _ => (pg_name (i := 10) sc_law.nd rfl (Or.inl rfl))) (fun _ _ _ _ _ => (pts_one (PW.pt (pw_or (pt_cmpR (Way.kk_inD (K := K) (hr.mono (by decide))) (pv 10) (pv 8) (by rfl)) (pw_or1 (pt_cmpR (Way.kk_inD (K := K) (hr.mono (by decide))) (pv 10) (pv 9) (by rfl))))))) (fun _ _ _ _ _ => (pv 10))) pa_nil))))) (pss_one (ps_ret pe_bl)) pss_nil)
      (pss_cons (ps_if (pt_not (pt_val (pe_call G_fits (hr.mono (by decide)) (by rfl) T.g_fits T.F_fits.kp T.B_fits .nil pass0 (pa_cons (pe_op (Way.op_binO G_Profile_and T.ic_Profile.sf T.m_Profile_and.at_ T.m_Profile_and.fn T.B_Profile_and pass0 (hr.mono (by decide))) (pv 6) (pv 7)) (pa_cons (pe_lc (own := [("_law_each", 10)]) (g := gName 10) (by rfl) sc_law.nd (pi_list (pv 8)) (blkOk_by (own := [("_law_each", 10)]) (N := N_law) (sc := defScope s_law) (by decide +kernel)) (fun _ _ _ _ _ => (pg_name (i := 10) sc_law.nd rfl (Or.inl rfl))) (fun _ _ _ _ _ => (pts_one (pt_cmpR (Way.kk_inD (K := K) (hr.mono (by decide))) (pv 10) (pv 9) (by rfl)))) (fun _ _ _ _ _ => (pv 10))) pa_nil))))) (pss_one (ps_ret pe_bl)) pss_nil)
      (pss_cons (ps_if (pt_not (pt_val (pe_call G_is (hr.mono (by decide)) (by rfl) T.g_is T.F_is.kp T.B_is .nil pass0 (pa_cons (pe_meth (pv 6) T.cl_Profile T.m_Profile_within G_Profile_within (hr.mono (by decide)) T.B_Profile_within .nil pass0 (pa_cons (pv 7) pa_nil)) (pa_cons (pe_cmpR (op_eqD hr.units) (pe_lc (own := [("_law_each", 10)]) (g := gName 10) (by rfl) sc_law.nd (pi_list (pv 8)) (blkOk_by (own := [("_law_each", 10)]) (N := N_law) (sc := defScope s_law) (by decide +kernel)) (fun _ _ _ _ _ => (pg_name (i := 10) sc_law.nd rfl (Or.inl rfl))) (fun _ _ _ _ _ => (pts_one (pt_cmpR (Way.kk_notInD (K := K) (hr.mono (by decide))) (pv 10) (pv 9) (by rfl)))) (fun _ _ _ _ _ => (pv 10))) (pe_lst pa_nil) (nomark _)) pa_nil))))) (pss_one (ps_ret pe_bl)) pss_nil)
      (pss_cons (ps_if (PW.pt (pw_or (pt_not (pt_val (pe_call G_is (hr.mono (by decide)) (by rfl) T.g_is T.F_is.kp T.B_is .nil pass0 (pa_cons (pe_cmpR (kk_eqPf T G_Profile_eq (hr.mono (by decide))) (pv 6) (pv 7) (nomark _)) (pa_cons (pe_cmpR (op_eqD hr.units) (pv 8) (pv 9) (nomark _)) pa_nil))))) (pw_or1 (pt_not (pt_val (pe_call G_is (hr.mono (by decide)) (by rfl) T.g_is T.F_is.kp T.B_is .nil pass0 (pa_cons (pe_cmpR (kk_eqPf T G_Profile_eq (hr.mono (by decide))) (pv 6) (pe_make T.M_Profile G_Profile_init (hr.mono (by decide)) (by rfl) T.g_Profile bd_Profile_init_1.2 bd_Profile_init_1.1 pass0 (pa_cons (pe_callTy (Way.call_listIt (EL := fun _ _ _ => False) rfl T.it_Profile G_Profile_iter G_Profile_len T.m_Profile_len.at_ T.m_Profile_len.fn T.B_Profile_len (hr.mono (by decide))) (by rfl) T.b_list (by decide +kernel) (pa_cons (pv 6) pa_nil)) pa_nil)) (nomark _)) (pa_cons pe_bl pa_nil)))))))) (pss_one (ps_ret pe_bl)) pss_nil)
      (pss_one (ps_if (PW.pt (pw_or (pt_cmpR (kk_eqPf T G_Profile_eq (hr.mono (by decide))) (pv 6) (pe_fld (pv 6) rfl) (nomark _)) (pw_or (pt_cmpR (kk_eqPf T G_Profile_eq (hr.mono (by decide))) (pv 6) (pe_callTy (Way.call_listIt (EL := fun _ _ _ => False) rfl T.it_Profile G_Profile_iter G_Profile_len T.m_Profile_len.at_ T.m_Profile_len.fn T.B_Profile_len (hr.mono (by decide))) (by rfl) T.b_list (by decide +kernel) (pa_cons (pv 6) pa_nil)) (nomark _)) (pw_or (pt_not (pt_val (pe_call G_fits (hr.mono (by decide)) (by rfl) T.g_fits T.F_fits.kp T.B_fits .nil pass0 (pa_cons (pv 6) (pa_cons (pv 8) pa_nil))))) (pw_or1 (pt_not (pt_val (pe_call G_fits (hr.mono (by decide)) (by rfl) T.g_fits T.F_fits.kp T.B_fits .nil pass0 (pa_cons (pv 7) (pa_cons (pv 9) pa_nil)))))))))) (pss_one (ps_ret pe_bl)) pss_nil))))))))))))))))
      (pss_one (ps_ret pe_bl))), ?_⟩
    refine q_forR1 (n := if (if (ns.length : Int) < 4 then (ns.length : Int) else 4) > 1 then (if (ns.length : Int) < 4 then (ns.length : Int) else 4) else 1) (ea_cons (ev_cb (ea_cons ev_c (ea_cons (ev_cb (ea_cons ev_c (ea_cons (ev_cb (ea_cons (ev_var rfl) ea_nil) (rc_lenL (K := K) hS)) ea_nil)) (rc_min (by rw [List.length_map]))) ea_nil)) rc_max) ea_nil) (by split <;> split <;> omega) (fun k σ H' => ∃ v1 v2 v3 v4 v5 v6 v7 v8 v9, σ = [some (.ref a), v1, v2, v3, v4, v5, v6, v7, v8, v9, none] ∧ Ex H H') (fun H1 X1 => ⟨none, none, none, none, none, none, none, none, none, rfl, X1⟩) ?_ ?_
    · rintro k σ' H0 hk ⟨v1, v2, v3, v4, v5, v6, v7, v8, v9, rfl, X⟩
      have hk4 : k < 4 := by
        revert hk
        split <;> split <;> omega
      refine q_any ⟨_, rfl, _, rfl, a, ns, (k : Int), rfl, ex_l X hS, hlen, by omega, by omega, fun p H1 n1 X1 b1 => ?_⟩
      refine q_parAny ⟨_, rfl, p, rfl, b1, fun l1 H2 S1 n2 K2 b2 hl1 z1 => ⟨_, rfl, p, rfl, b2, fun l2 H3 S2 n3 K3 b3 hl2 z2 => ⟨_, _, rfl, ?_⟩⟩⟩
      have X03 : Ex H0 H3 := kp_ex n1 (kp_ex n1 X1 K2) K3
      obtain ⟨a1, c1, hp1, _⟩ := id b1
      obtain ⟨a2, c2, hp2, _⟩ := id b2
      obtain ⟨a3, c3, hp3, _⟩ := id b3
      have nl1p : l1 ≠ p := (ne_of_none hp1 n2).symm
      have nl2p : l2 ≠ p := (ne_of_none hp2 n3).symm
      have hl1 := lat_kp tAt_stay hl1 nl1p hp2 K3
      obtain ⟨l1', x1s, e1', h1l, _⟩ := id hl1
      cases e1'
      obtain ⟨l2', x2s, e2', h2l, _⟩ := id hl2
      cases e2'
      refine n_asg (en_mapL (K := K) (P := TAt) (R := MAt T.C_Manners) (c := id) tAt_mono mAt_stay (ev_var rfl) hl1 (by omega) (fun _ => rfl) fun y c H4 X4 hc pc => ex_man (ev_var rfl) pc) fun g H4 n4 X4 hg => ?_
      rw [List.map_id] at hg
      have ngp : g ≠ p := (ne_of_none hp3 n4).symm
      have nl1g : l1 ≠ g := ne_of_none h1l n4
      have nl2g : l2 ≠ g := ne_of_none h2l n4
      have b4 := bag_mono X4 b3
      obtain ⟨a4, c4, hp4, _⟩ := id b4
      have hl1 := hl1.mono tAt_mono X4
      have hl2 := hl2.mono tAt_mono X4
      have X04 := X03.trans X4
      refine q_ifMake (R := fun H5 => Kp p H4 H5 ∧ BagAt H5 p) (P := PAt T.C_Profile T.C_Manners (prof S1)) (fun Q' q => ⟨_, rfl, p, 2, rfl, b4, by decide, by decide, fun d H5 K5 b5 d0 d1 => ⟨rfl, _, rfl, q _ H5 ⟨K5, b5⟩⟩⟩) (fun H5 r => ex_prof (ex_seqU (ev_var rfl) (lat_kp mAt_stay hg ngp hp4 r.1)) (by omega)) (fun H5 r => ex_prof (EvX.of (ev_var rfl) fun H6 X6 => seqM_l ((lat_kp mAt_stay hg ngp hp4 r.1).mono mAt_mono X6)) (by omega)) fun one H5 H6 r X6 hone => ?_
      have hg := (lat_kp mAt_stay hg ngp hp4 r.1).mono mAt_mono X6
      have hl1 := (lat_kp tAt_stay hl1 nl1p hp4 r.1).mono tAt_mono X6
      have hl2 := (lat_kp tAt_stay hl2 nl2p hp4 r.1).mono tAt_mono X6
      have X06 : Ex H0 H6 := (kp_ex n1 X04 r.1).trans X6
      refine x_asg (ex_prof (S := S2) ((en_mapL (K := K) (P := TAt) (R := MAt T.C_Manners) (c := id) tAt_mono mAt_stay (ev_var rfl) hl2 (by omega) (fun _ => rfl) fun y c H7 X7 hc pc => ex_man (ev_var rfl) pc).x.to fun v H7 _ z => seqM_l (by rw [List.map_id] at z; exact z)) (by omega)) fun two H7 X7 htwo => ?_
      have hone := pAt_mono X7 hone
      have hg := hg.mono mAt_mono X7
      have hl1 := hl1.mono tAt_mono X7
      have hl2 := hl2.mono tAt_mono X7
      refine q_when (b := false) (et_is (et_test (ev_neP (en_mapL (K := K) (P := MAt T.C_Manners) (R := TAt) (c := id) mAt_mono tAt_stay (ev_var rfl) hg (by omega) (fun _ => rfl) fun y i H8 X8 hi py => ex_names (cl := T.cl_Manners) (na := T.na_Manners_names) (ev_var rfl) py).x (EvX.of (ev_var rfl) fun H8 X8 => hl1.mono tAt_mono X8))) (by rw [List.map_id]; simp)) (fun q => nomatch q) fun _ H8 X8 => ?_
      have hone := pAt_mono X8 hone
      have htwo := pAt_mono X8 htwo
      have hg := hg.mono mAt_mono X8
      have hl1 := hl1.mono tAt_mono X8
      have hl2 := hl2.mono tAt_mono X8
      obtain ⟨g', gs, eg, hgl, _⟩ := id hg
      cases eg
      refine x_appQ (P := MAt T.C_Manners) (c := 0) mAt_mono mAt_stay (ev_var rfl) hg (ex_makeR (i := 0) ea_nil) (by omega) fun H9 K9 _ => ?_
      have hone := pat_kp hone hgl K9
      have htwo := pat_kp htwo hgl K9
      have hl1 := lat_kp tAt_stay hl1 nl1g hgl K9
      have hl2 := lat_kp tAt_stay hl2 nl2g hgl K9
      have X09 : Ex H0 H9 := kp_ex (fresh_back X03 n4) ((X06.trans X7).trans X8) K9
      refine x_parT (K := K) (fun v H H' e z => z.mono tAt_mono e) (fun v H H' e z => z.mono tAt_mono e) (en_map (ev_var rfl) hl1 (by omega)).x (en_map (ev_var rfl) hl2 (by omega)).x fun fi se HA XA hfi hse => ?_
      have hone := pAt_mono XA hone
      have htwo := pAt_mono XA htwo
      have F1 := fit_prof S1
      have F2 := fit_prof S2
      have p1 := F1.sz
      have p2 := F2.sz
      have t1 := F1.tz
      have t2 := F2.tz
      refine q_when (b := false) (et_is (et_or (et_not (et_B (ev_fits (EvX.of (ev_var rfl) fun H X => pAt_mono X hone) (EvX.of (ev_var rfl) fun H X => hfi.mono tAt_mono X) F1))) fun _ => et_or (et_not (et_B (ev_fits (EvX.of (ev_var rfl) fun H X => pAt_mono X htwo) (EvX.of (ev_var rfl) fun H X => hse.mono tAt_mono X) F2))) fun _ => et_not (et_B (ev_fits (ex_prof0 T.et_Profile_init) (ex_nil tAt_mono) fit_nil))) rfl) (fun q => nomatch q) fun _ HB XB => ?_
      have hone := pAt_mono XB hone
      have htwo := pAt_mono XB htwo
      have hfi := hfi.mono tAt_mono XB
      have hse := hse.mono tAt_mono XB
      refine q_when (b := false) (et_is (et_not (et_B (ev_fits (ex_orP (ev_var rfl) hone (ev_var rfl) htwo (by omega) (by omega)) (en_fltN (K := K) (P := TAt) (g := fun e => has (tellS S1) e || has (tellS S2) e) tAt_mono en_eight (Nat.le_of_ble_eq_true rfl) (Nat.lt_of_lt_of_eq (by decide : 10 < 11) rfl) (fun _ => rfl) fun y c HC XC hc pc => et_or (et_test (ev_op (ev_var rfl) (ev_var rfl) (rv_inT' (neg := false) (hfi.mono tAt_mono XC) pc))) fun _ => et_test (ev_op (ev_var rfl) (ev_var rfl) (rv_inT' (neg := false) (hse.mono tAt_mono XC) pc))).x (fit_or S1 S2)))) rfl) (fun q => nomatch q) fun _ HC XC => ?_
      have hone := pAt_mono XC hone
      have htwo := pAt_mono XC htwo
      have hfi := hfi.mono tAt_mono XC
      have hse := hse.mono tAt_mono XC
      refine q_when (b := false) (et_is (et_not (et_B (ev_fits (ex_andP (ev_var rfl) hone (ev_var rfl) htwo (by omega) (by omega)) (en_fltL (K := K) (P := TAt) (g := fun e => has (tellS S2) e) tAt_mono (ev_var rfl) hfi (by omega) (Nat.lt_of_lt_of_eq (by decide : 10 < 11) rfl) (fun _ => rfl) fun y c HD XD hc pc => et_test (ev_op (ev_var rfl) (ev_var rfl) (rv_inT' (neg := false) (hse.mono tAt_mono XD) pc))).x (fit_and S1 S2)))) rfl) (fun q => nomatch q) fun _ HD XD => ?_
      have hone := pAt_mono XD hone
      have htwo := pAt_mono XD htwo
      have hfi := hfi.mono tAt_mono XD
      have hse := hse.mono tAt_mono XD
      refine q_when (b := false) (et_is (et_not (et_B (ev_isB (ev_pwith (ev_var rfl) hone (ev_var rfl) htwo (by omega) (by omega)) (ev_eqP (en_fltL (K := K) (P := TAt) (g := fun e => !has (tellS S2) e) tAt_mono (ev_var rfl) hfi (by omega) (Nat.lt_of_lt_of_eq (by decide : 10 < 11) rfl) (fun _ => rfl) fun y c HE XE hc pc => et_test (ev_op (ev_var rfl) (ev_var rfl) (rv_inT' (neg := true) (hse.mono tAt_mono XE) pc))).x (ex_nil tAt_mono))))) (by rw [decide_eq_true (with_prof S1 S2)]; rfl)) (fun q => nomatch q) fun _ HE XE => ?_
      have hone := pAt_mono XE hone
      have htwo := pAt_mono XE htwo
      have hfi := hfi.mono tAt_mono XE
      have hse := hse.mono tAt_mono XE
      obtain ⟨x, dx, t, rfl, hx, ⟨t', xs, et, ht, hpx⟩⟩ := id hone
      cases et
      refine q_when (b := false) (et_is (et_or (et_not (et_B (ev_isB (ev_op (ev_var rfl) (ev_var rfl) (rv_eqPP T hone htwo)) (ev_eqP (EvX.of (ev_var rfl) fun H X => hfi.mono tAt_mono X) (EvX.of (ev_var rfl) fun H X => hse.mono tAt_mono X))))) fun _ => et_not (et_B (ev_isB (ev_opX (P := PAt T.C_Profile T.C_Manners (prof (prof S1))) (ev_var rfl) (ex_prof ((en_listIt (ev_var rfl) hone (by omega)).x.to fun v H _ z => seqM_l z) (by omega)) fun v HF XF hv => rv_eqPP T (pAt_mono XF hone) hv) ev_c))) (by rw [eq_prof S1 S2, prof_prof]; simp)) (fun q => nomatch q) fun _ HF XF => ?_
      have hone := pAt_mono XF hone
      have htwo := pAt_mono XF htwo
      have hfi := hfi.mono tAt_mono XF
      have hse := hse.mono tAt_mono XF
      refine s_when (b := false) (et_is (et_or (et_test (ev_op (ev_var rfl) (ev_fld (ev_var rfl) (XF _ _ hx) T.cl_Profile T.na_Profile_least_sets rfl) (rv_eqPT T hone (XF _ _ ht)))) fun _ => et_or (et_test (ev_opX (P := LAt (MAt T.C_Manners) (prof S1)) (ev_var rfl) (en_listIt (ev_var rfl) hone (by omega)).x fun v HG XG hv => by obtain ⟨q, qs, rfl, hq, _⟩ := hv; exact rv_eqPL T (pAt_mono XG hone) hq)) fun _ => et_or (et_not (et_B (ev_fits (EvX.of (ev_var rfl) fun H X => pAt_mono X hone) (EvX.of (ev_var rfl) fun H X => hfi.mono tAt_mono X) F1))) fun _ => et_not (et_B (ev_fits (EvX.of (ev_var rfl) fun H X => pAt_mono X htwo) (EvX.of (ev_var rfl) fun H X => hse.mono tAt_mono X) F2))) rfl) (fun q => nomatch q) fun _ HG XG => ?_
      exact ⟨_, _, _, _, _, _, _, _, _, rfl, X.trans (X09.trans (XA.trans (XB.trans (XC.trans (XD.trans (XE.trans (XF.trans XG)))))))⟩
    · rintro σ' H0 _
      exact s_ret ev_c fun H1 X1 => kont H1
end
end K82

namespace K82
open PySem L2
theorem all_mk {l : PySem.W.OpenLaw} {w : World} {K : PySem.W.Frag} {h : Heap} {mg : Str → Option Value} {fa f0 f1 f2 f3 f4 f5 f6 f7 f8 f9 f10 f11 f12 f13 f14 f15 f16 f17 f18 f19 f20 f21 f22 f23 f24 f25 f26 f27 SP1 TD5 TE5 SP6 C0 W0_0 C1 : Addr} (X : K.In h) (G : h.Ns mainGlobals mg) (hfa : mg "law" = some (.ref fa))
    {od0 an0 od1 an1 od2 an2 od3 an3 od4 an4 od5 an5 od6 an6 od7 an7 od8 an8 od9 an9 od10 an10 od11 an11 od12 an12 od13 an13 od14 an14 od15 an15 od16 an16 od17 an17 od18 an18 od19 an19 od20 an20 od21 an21 od22 an22 od23 an23 od24 an24 od25 an25 od26 an26 od27 an27 : Option Addr} {sl0 sl1 sl2 sl3 sl4 sl5 sl6 sl7 sl8 sl9 sl10 sl11 sl12 sl13 sl14 sl15 sl16 sl17 sl18 sl19 sl20 sl21 sl22 sl23 sl24 sl25 sl26 sl27 : Array (Option Value)} {oc0 kV0 dc0 pm0 cd0 ct0 oc1 kV1 dc1 pm1 cd1 ct1 oc2 kV2 dc2 pm2 cd2 ct2 oc3 kV3 dc3 pm3 cd3 ct3 oc4 kV4 dc4 pm4 cd4 ct4 oc5 kV5 dc5 pm5 cd5 ct5 oc6 kV6 dc6 pm6 cd6 ct6 oc7 kV7 dc7 pm7 cd7 ct7 oc8 kV8 dc8 pm8 cd8 ct8 oc9 kV9 dc9 pm9 cd9 ct9 oc10 kV10 dc10 pm10 cd10 ct10 oc11 kV11 dc11 pm11 cd11 ct11 oc12 kV12 dc12 pm12 cd12 ct12 oc13 kV13 dc13 pm13 cd13 ct13 oc14 kV14 dc14 pm14 cd14 ct14 oc15 kV15 dc15 pm15 cd15 ct15 oc16 kV16 dc16 pm16 cd16 ct16 oc17 kV17 dc17 pm17 cd17 ct17 oc18 kV18 dc18 pm18 cd18 ct18 oc19 kV19 dc19 pm19 cd19 ct19 oc20 kV20 dc20 pm20 cd20 ct20 oc21 kV21 dc21 pm21 cd21 ct21 oc22 kV22 dc22 pm22 cd22 ct22 oc23 kV23 dc23 pm23 cd23 ct23 oc24 kV24 dc24 pm24 cd24 ct24 oc25 kV25 dc25 pm25 cd25 ct25 oc26 kV26 dc26 pm26 cd26 ct26 oc27 kV27 dc27 pm27 cd27 ct27 : Value}
    {RS1 : List Value}
    {toc5 : Value} {tod5 teo5 : Option Addr} {tn5 ten5 : Nat} {tsl5 tes5 : Array (Option Value)}
    {RS6 : List Value}
    {wd0_0 : Option Addr} {wn0_0 : Nat} {wsl0_0 : Array (Option Value)} {wt0_0_0 wt0_0_1 wt0_0_2 : Tok}
    (gc0 : PySem.W.nsIn K mainGlobals "Manners" = some (some (.ref C0)))
    (pg0 : PySem.W.plainGet K C0 Str.empty = true)
    (hd0 : PySem.W.hasDictIn K C0 = true)
    (po0 : PySem.W.plainOver K C0 = true)
    (sa0 : PySem.W.findIn K (.ref C0) "__setattr__" = some (some (.builtin "object.__setattr__")))
    (mk0 : PySem.W.makesIn K C0 = true)
    (kc0 : PySem.W.keepIn K (.ref C0) = true)
    (na0_0 : PySem.W.findIn K (.ref C0) "names" = some none)
    (rd0 : PySem.W.readsIn K C0 (.type "type") = true)
    (cg0 : PySem.W.specialIn K (.ref C0) "__getattribute__" = some (some (.builtin "type.__getattribute__")))
    (wc0_0 : PySem.W.findCls K (.ref C0) (.type "type") "WORDS" = some (.val (.ref W0_0)))
    (wl0_0 : K.lookup W0_0 = some ⟨.type "tuple", wd0_0, .seq #[.str "ask" wt0_0_0, .str "old" wt0_0_1, .str "set" wt0_0_2] wn0_0, wsl0_0⟩)
    (xic_Manners_0 : PySem.W.findIn K (.ref C0) "__class__" = some (some (.builtin "object.__class__")))
    (xic_Manners_1 : PySem.W.specialIn K (.builtin "object.__class__") "__get__" = some (some (.builtin "getset_descriptor.__get__")))
    (xic_Manners_2 : PySem.W.takesIn K (.builtin "object.__class__") = some true)
    (xic_Manners_3 : PySem.W.mroIn K C0 (.type "object") = some true)
    (xic_Manners_4 : PySem.W.findIn K (.ref C0) "__ne__" = some (some (.builtin "object.__ne__")))
    (xic_Manners_5 : PySem.W.selfFirst K C0 = true)
    (xic_Manners_6 : PySem.W.typeIn K (.ref C0) = some (.type "type"))
    (gc1 : PySem.W.nsIn K mainGlobals "Profile" = some (some (.ref C1)))
    (pg1 : PySem.W.plainGet K C1 Str.empty = true)
    (hd1 : PySem.W.hasDictIn K C1 = true)
    (po1 : PySem.W.plainOver K C1 = true)
    (sa1 : PySem.W.findIn K (.ref C1) "__setattr__" = some (some (.builtin "object.__setattr__")))
    (mk1 : PySem.W.makesIn K C1 = true)
    (kc1 : PySem.W.keepIn K (.ref C1) = true)
    (na1_0 : PySem.W.findIn K (.ref C1) "least_sets" = some none)
    (xic_Profile_0 : PySem.W.findIn K (.ref C1) "__class__" = some (some (.builtin "object.__class__")))
    (xic_Profile_1 : PySem.W.specialIn K (.builtin "object.__class__") "__get__" = some (some (.builtin "getset_descriptor.__get__")))
    (xic_Profile_2 : PySem.W.takesIn K (.builtin "object.__class__") = some true)
    (xic_Profile_3 : PySem.W.mroIn K C1 (.type "object") = some true)
    (xic_Profile_4 : PySem.W.findIn K (.ref C1) "__ne__" = some (some (.builtin "object.__ne__")))
    (xic_Profile_5 : PySem.W.selfFirst K C1 = true)
    (xic_Profile_6 : PySem.W.typeIn K (.ref C1) = some (.type "type"))
    (a0 : PySem.W.findIn K (.ref C0) "__init__" = some (some (.ref f0))) (l0 : K.lookup f0 = some ⟨oc0, od0, .func (PySem.W.fnOf "__init__" "Manners.__init__" (defArgs s_Manners_init) (defBody s_Manners_init) (defScope s_Manners_init) .none kV0 dc0 pm0 an0 cd0 ct0), sl0⟩) (c0 : PySem.W.codeIn K cd0 "Manners.__init__" = true) (k0 : PySem.W.keepIn K (.ref f0) = true)
    (i0 : PySem.W.isFn K (.ref f0) = true)
    (a1 : PySem.W.findCls K (.ref C0) (.type "type") "every" = some (.get (.builtin "staticmethod.__get__") (.ref SP1) .none (.ref C0))) (r1 : PySem.W.recIn K SP1 "staticmethod" = some (.ref f1 :: RS1)) (l1 : K.lookup f1 = some ⟨oc1, od1, .func (PySem.W.fnOf "every" "Manners.every" (defArgs s_Manners_every) (defBody s_Manners_every) (defScope s_Manners_every) .none kV1 dc1 pm1 an1 cd1 ct1), sl1⟩) (c1 : PySem.W.codeIn K cd1 "Manners.every" = true) (k1 : PySem.W.keepIn K (.ref f1) = true)
    (a2 : PySem.W.findIn K (.ref C0) "__eq__" = some (some (.ref f2))) (l2 : K.lookup f2 = some ⟨oc2, od2, .func (PySem.W.fnOf "__eq__" "Manners.__eq__" (defArgs s_Manners_eq) (defBody s_Manners_eq) (defScope s_Manners_eq) .none kV2 dc2 pm2 an2 cd2 ct2), sl2⟩) (c2 : PySem.W.codeIn K cd2 "Manners.__eq__" = true) (k2 : PySem.W.keepIn K (.ref f2) = true)
    (i2 : PySem.W.isFn K (.ref f2) = true)
    (a3 : PySem.W.findIn K (.ref C0) "__or__" = some (some (.ref f3))) (l3 : K.lookup f3 = some ⟨oc3, od3, .func (PySem.W.fnOf "__or__" "Manners.__or__" (defArgs s_Manners_or) (defBody s_Manners_or) (defScope s_Manners_or) .none kV3 dc3 pm3 an3 cd3 ct3), sl3⟩) (c3 : PySem.W.codeIn K cd3 "Manners.__or__" = true) (k3 : PySem.W.keepIn K (.ref f3) = true)
    (i3 : PySem.W.isFn K (.ref f3) = true)
    (a4 : PySem.W.findIn K (.ref C0) "within" = some (some (.ref f4))) (l4 : K.lookup f4 = some ⟨oc4, od4, .func (PySem.W.fnOf "within" "Manners.within" (defArgs s_Manners_within) (defBody s_Manners_within) (defScope s_Manners_within) .none kV4 dc4 pm4 an4 cd4 ct4), sl4⟩) (c4 : PySem.W.codeIn K cd4 "Manners.within" = true) (k4 : PySem.W.keepIn K (.ref f4) = true)
    (i4 : PySem.W.isFn K (.ref f4) = true)
    (a5 : PySem.W.findIn K (.ref C1) "__init__" = some (some (.ref f5))) (l5 : K.lookup f5 = some ⟨oc5, od5, .func (PySem.W.fnOf "__init__" "Profile.__init__" (defArgs s_Profile_init) (defBody s_Profile_init) (defScope s_Profile_init) (.ref TD5) kV5 dc5 pm5 an5 cd5 ct5), sl5⟩) (c5 : PySem.W.codeIn K cd5 "Profile.__init__" = true) (k5 : PySem.W.keepIn K (.ref f5) = true)
    (i5 : PySem.W.isFn K (.ref f5) = true)
    (td5 : K.lookup TD5 = some ⟨toc5, tod5, .seq #[.ref TE5] tn5, tsl5⟩) (te5 : K.lookup TE5 = some ⟨.type "tuple", teo5, .seq #[] ten5, tes5⟩)
    (a6 : PySem.W.findIn K (.ref C1) "is_quiet" = some (some (.ref SP6))) (pg_6 : PySem.W.specialIn K (.ref SP6) "__get__" = some (some (.builtin "property.__get__"))) (pt_6 : PySem.W.takesIn K (.ref SP6) = some true) (r6 : PySem.W.recIn K SP6 "property" = some (.ref f6 :: RS6)) (l6 : K.lookup f6 = some ⟨oc6, od6, .func (PySem.W.fnOf "is_quiet" "Profile.is_quiet" (defArgs s_Profile_is_quiet) (defBody s_Profile_is_quiet) (defScope s_Profile_is_quiet) .none kV6 dc6 pm6 an6 cd6 ct6), sl6⟩) (c6 : PySem.W.codeIn K cd6 "Profile.is_quiet" = true) (k6 : PySem.W.keepIn K (.ref f6) = true)
    (a7 : PySem.W.findIn K (.ref C1) "greatest" = some (some (.ref f7))) (l7 : K.lookup f7 = some ⟨oc7, od7, .func (PySem.W.fnOf "greatest" "Profile.greatest" (defArgs s_Profile_greatest) (defBody s_Profile_greatest) (defScope s_Profile_greatest) .none kV7 dc7 pm7 an7 cd7 ct7), sl7⟩) (c7 : PySem.W.codeIn K cd7 "Profile.greatest" = true) (k7 : PySem.W.keepIn K (.ref f7) = true)
    (i7 : PySem.W.isFn K (.ref f7) = true)
    (a8 : PySem.W.findIn K (.ref C1) "within" = some (some (.ref f8))) (l8 : K.lookup f8 = some ⟨oc8, od8, .func (PySem.W.fnOf "within" "Profile.within" (defArgs s_Profile_within) (defBody s_Profile_within) (defScope s_Profile_within) .none kV8 dc8 pm8 an8 cd8 ct8), sl8⟩) (c8 : PySem.W.codeIn K cd8 "Profile.within" = true) (k8 : PySem.W.keepIn K (.ref f8) = true)
    (i8 : PySem.W.isFn K (.ref f8) = true)
    (a9 : PySem.W.findIn K (.ref C1) "__contains__" = some (some (.ref f9))) (l9 : K.lookup f9 = some ⟨oc9, od9, .func (PySem.W.fnOf "__contains__" "Profile.__contains__" (defArgs s_Profile_contains) (defBody s_Profile_contains) (defScope s_Profile_contains) .none kV9 dc9 pm9 an9 cd9 ct9), sl9⟩) (c9 : PySem.W.codeIn K cd9 "Profile.__contains__" = true) (k9 : PySem.W.keepIn K (.ref f9) = true)
    (i9 : PySem.W.isFn K (.ref f9) = true)
    (a10 : PySem.W.findIn K (.ref C1) "__len__" = some (some (.ref f10))) (l10 : K.lookup f10 = some ⟨oc10, od10, .func (PySem.W.fnOf "__len__" "Profile.__len__" (defArgs s_Profile_len) (defBody s_Profile_len) (defScope s_Profile_len) .none kV10 dc10 pm10 an10 cd10 ct10), sl10⟩) (c10 : PySem.W.codeIn K cd10 "Profile.__len__" = true) (k10 : PySem.W.keepIn K (.ref f10) = true)
    (i10 : PySem.W.isFn K (.ref f10) = true)
    (a11 : PySem.W.findIn K (.ref C1) "__iter__" = some (some (.ref f11))) (l11 : K.lookup f11 = some ⟨oc11, od11, .func (PySem.W.fnOf "__iter__" "Profile.__iter__" (defArgs s_Profile_iter) (defBody s_Profile_iter) (defScope s_Profile_iter) .none kV11 dc11 pm11 an11 cd11 ct11), sl11⟩) (c11 : PySem.W.codeIn K cd11 "Profile.__iter__" = true) (k11 : PySem.W.keepIn K (.ref f11) = true)
    (i11 : PySem.W.isFn K (.ref f11) = true)
    (a12 : PySem.W.findIn K (.ref C1) "__eq__" = some (some (.ref f12))) (l12 : K.lookup f12 = some ⟨oc12, od12, .func (PySem.W.fnOf "__eq__" "Profile.__eq__" (defArgs s_Profile_eq) (defBody s_Profile_eq) (defScope s_Profile_eq) .none kV12 dc12 pm12 an12 cd12 ct12), sl12⟩) (c12 : PySem.W.codeIn K cd12 "Profile.__eq__" = true) (k12 : PySem.W.keepIn K (.ref f12) = true)
    (i12 : PySem.W.isFn K (.ref f12) = true)
    (a13 : PySem.W.findIn K (.ref C1) "__or__" = some (some (.ref f13))) (l13 : K.lookup f13 = some ⟨oc13, od13, .func (PySem.W.fnOf "__or__" "Profile.__or__" (defArgs s_Profile_or) (defBody s_Profile_or) (defScope s_Profile_or) .none kV13 dc13 pm13 an13 cd13 ct13), sl13⟩) (c13 : PySem.W.codeIn K cd13 "Profile.__or__" = true) (k13 : PySem.W.keepIn K (.ref f13) = true)
    (i13 : PySem.W.isFn K (.ref f13) = true)
    (a14 : PySem.W.findIn K (.ref C1) "__and__" = some (some (.ref f14))) (l14 : K.lookup f14 = some ⟨oc14, od14, .func (PySem.W.fnOf "__and__" "Profile.__and__" (defArgs s_Profile_and) (defBody s_Profile_and) (defScope s_Profile_and) .none kV14 dc14 pm14 an14 cd14 ct14), sl14⟩) (c14 : PySem.W.codeIn K cd14 "Profile.__and__" = true) (k14 : PySem.W.keepIn K (.ref f14) = true)
    (i14 : PySem.W.isFn K (.ref f14) = true)
    (a15 : PySem.W.nsIn K mainGlobals "_law_bag" = some (some (.ref f15))) (l15 : K.lookup f15 = some ⟨oc15, od15, .func (PySem.W.fnOf "_law_bag" "_law_bag" (defArgs s_bag) (defBody s_bag) (defScope s_bag) .none kV15 dc15 pm15 an15 cd15 ct15), sl15⟩) (c15 : PySem.W.codeIn K cd15 "_law_bag" = true) (k15 : PySem.W.keepIn K (.ref f15) = true)
    (a16 : PySem.W.nsIn K mainGlobals "_law_take" = some (some (.ref f16))) (l16 : K.lookup f16 = some ⟨oc16, od16, .func (PySem.W.fnOf "_law_take" "_law_take" (defArgs s_take) (defBody s_take) (defScope s_take) .none kV16 dc16 pm16 an16 cd16 ct16), sl16⟩) (c16 : PySem.W.codeIn K cd16 "_law_take" = true) (k16 : PySem.W.keepIn K (.ref f16) = true)
    (a17 : PySem.W.nsIn K mainGlobals "_law_of" = some (some (.ref f17))) (l17 : K.lookup f17 = some ⟨oc17, od17, .func (PySem.W.fnOf "_law_of" "_law_of" (defArgs s_of) (defBody s_of) (defScope s_of) .none kV17 dc17 pm17 an17 cd17 ct17), sl17⟩) (c17 : PySem.W.codeIn K cd17 "_law_of" = true) (k17 : PySem.W.keepIn K (.ref f17) = true)
    (a18 : PySem.W.nsIn K mainGlobals "_law_eight" = some (some (.ref f18))) (l18 : K.lookup f18 = some ⟨oc18, od18, .func (PySem.W.fnOf "_law_eight" "_law_eight" (defArgs s_eight) (defBody s_eight) (defScope s_eight) .none kV18 dc18 pm18 an18 cd18 ct18), sl18⟩) (c18 : PySem.W.codeIn K cd18 "_law_eight" = true) (k18 : PySem.W.keepIn K (.ref f18) = true)
    (a19 : PySem.W.nsIn K mainGlobals "_law_manners" = some (some (.ref f19))) (l19 : K.lookup f19 = some ⟨oc19, od19, .func (PySem.W.fnOf "_law_manners" "_law_manners" (defArgs s_manners) (defBody s_manners) (defScope s_manners) .none kV19 dc19 pm19 an19 cd19 ct19), sl19⟩) (c19 : PySem.W.codeIn K cd19 "_law_manners" = true) (k19 : PySem.W.keepIn K (.ref f19) = true)
    (a20 : PySem.W.nsIn K mainGlobals "_law_is" = some (some (.ref f20))) (l20 : K.lookup f20 = some ⟨oc20, od20, .func (PySem.W.fnOf "_law_is" "_law_is" (defArgs s_is) (defBody s_is) (defScope s_is) .none kV20 dc20 pm20 an20 cd20 ct20), sl20⟩) (c20 : PySem.W.codeIn K cd20 "_law_is" = true) (k20 : PySem.W.keepIn K (.ref f20) = true)
    (a21 : PySem.W.nsIn K mainGlobals "_law_part" = some (some (.ref f21))) (l21 : K.lookup f21 = some ⟨oc21, od21, .func (PySem.W.fnOf "_law_part" "_law_part" (defArgs s_part) (defBody s_part) (defScope s_part) .none kV21 dc21 pm21 an21 cd21 ct21), sl21⟩) (c21 : PySem.W.codeIn K cd21 "_law_part" = true) (k21 : PySem.W.keepIn K (.ref f21) = true)
    (a22 : PySem.W.nsIn K mainGlobals "_law_telling" = some (some (.ref f22))) (l22 : K.lookup f22 = some ⟨oc22, od22, .func (PySem.W.fnOf "_law_telling" "_law_telling" (defArgs s_telling) (defBody s_telling) (defScope s_telling) .none kV22 dc22 pm22 an22 cd22 ct22), sl22⟩) (c22 : PySem.W.codeIn K cd22 "_law_telling" = true) (k22 : PySem.W.keepIn K (.ref f22) = true)
    (a23 : PySem.W.nsIn K mainGlobals "_law_least" = some (some (.ref f23))) (l23 : K.lookup f23 = some ⟨oc23, od23, .func (PySem.W.fnOf "_law_least" "_law_least" (defArgs s_least) (defBody s_least) (defScope s_least) .none kV23 dc23 pm23 an23 cd23 ct23), sl23⟩) (c23 : PySem.W.codeIn K cd23 "_law_least" = true) (k23 : PySem.W.keepIn K (.ref f23) = true)
    (a24 : PySem.W.nsIn K mainGlobals "_law_greatest" = some (some (.ref f24))) (l24 : K.lookup f24 = some ⟨oc24, od24, .func (PySem.W.fnOf "_law_greatest" "_law_greatest" (defArgs s_greatest) (defBody s_greatest) (defScope s_greatest) .none kV24 dc24 pm24 an24 cd24 ct24), sl24⟩) (c24 : PySem.W.codeIn K cd24 "_law_greatest" = true) (k24 : PySem.W.keepIn K (.ref f24) = true)
    (a25 : PySem.W.nsIn K mainGlobals "_law_fits" = some (some (.ref f25))) (l25 : K.lookup f25 = some ⟨oc25, od25, .func (PySem.W.fnOf "_law_fits" "_law_fits" (defArgs s_fits) (defBody s_fits) (defScope s_fits) .none kV25 dc25 pm25 an25 cd25 ct25), sl25⟩) (c25 : PySem.W.codeIn K cd25 "_law_fits" = true) (k25 : PySem.W.keepIn K (.ref f25) = true)
    (a26 : PySem.W.nsIn K mainGlobals "_law_sets" = some (some (.ref f26))) (l26 : K.lookup f26 = some ⟨oc26, od26, .func (PySem.W.fnOf "_law_sets" "_law_sets" (defArgs s_sets) (defBody s_sets) (defScope s_sets) .none kV26 dc26 pm26 an26 cd26 ct26), sl26⟩) (c26 : PySem.W.codeIn K cd26 "_law_sets" = true) (k26 : PySem.W.keepIn K (.ref f26) = true)
    (a27 : PySem.W.nsIn K mainGlobals "law" = some (some (.ref f27))) (l27 : K.lookup f27 = some ⟨oc27, od27, .func (PySem.W.fnOf "law" "law" (defArgs s_law) (defBody s_law) (defScope s_law) .none kV27 dc27 pm27 an27 cd27 ct27), sl27⟩) (c27 : PySem.W.codeIn K cd27 "law" = true) (k27 : PySem.W.keepIn K (.ref f27) = true)
    (z0 : PySem.W.nsIn K mainGlobals "ValueError" = some none)
    (z1 : PySem.W.nsIn K mainGlobals "staticmethod" = some none)
    (z2 : PySem.W.nsIn K mainGlobals "classmethod" = some none)
    (z3 : PySem.W.nsIn K mainGlobals "property" = some none)
    (z4 : PySem.W.nsIn K mainGlobals "enumerate" = some none)
    (z5 : PySem.W.nsIn K mainGlobals "isinstance" = some none)
    (z6 : PySem.W.nsIn K mainGlobals "bool" = some none)
    (z7 : PySem.W.nsIn K mainGlobals "range" = some none)
    (z8 : PySem.W.nsIn K mainGlobals "tuple" = some none)
    (z9 : PySem.W.nsIn K mainGlobals "len" = some none)
    (z10 : PySem.W.nsIn K mainGlobals "all" = some none)
    (z11 : PySem.W.nsIn K mainGlobals "list" = some none)
    (z12 : PySem.W.nsIn K mainGlobals "any" = some none)
    (z13 : PySem.W.nsIn K mainGlobals "iter" = some none)
    (z14 : PySem.W.nsIn K mainGlobals "int" = some none)
    (z15 : PySem.W.nsIn K mainGlobals "max" = some none)
    (z16 : PySem.W.nsIn K mainGlobals "str" = some none)
    (z17 : PySem.W.nsIn K mainGlobals "abs" = some none)
    (z18 : PySem.W.nsIn K mainGlobals "min" = some none)
    (z19 : PySem.W.nsIn K mainGlobals "super" = some none)
    : ∃ fd : FuncData, (∀ (s : Shared) (v : Value), BindsTo s fd ⟨[v], []⟩ [("_law_script", v)]) ∧ ∀ base : Heap, K.In base → base.Ns mainGlobals mg → FnOk l.prog w K mg base CX0 8 fa fd ["_law_script"] (spLaw K) := by
  have e := hfa.symm.trans (PySem.W.mg_of X G a27)
  cases e
  let T : Txt K mg := {
    f_Manners_init := f0, d_Manners_init := _, F_Manners_init := fun_mk (st := s_Manners_init) l0 c0 k0,
    f_Manners_every := f1, d_Manners_every := _, F_Manners_every := fun_mk (st := s_Manners_every) l1 c1 k1, B_Manners_every := (fun_mk (st := s_Manners_every) l1 c1 k1).binds (ps := P_Manners_every) (fun _ _ _ _ _ _ us hl => match us, hl with | [], _ => rfl),
    f_Manners_eq := f2, d_Manners_eq := _, F_Manners_eq := fun_mk (st := s_Manners_eq) l2 c2 k2, B_Manners_eq := (fun_mk (st := s_Manners_eq) l2 c2 k2).binds (ps := P_Manners_eq) (fun _ _ _ _ _ _ us hl => match us, hl with | [_, _], _ => rfl),
    f_Manners_or := f3, d_Manners_or := _, F_Manners_or := fun_mk (st := s_Manners_or) l3 c3 k3, B_Manners_or := (fun_mk (st := s_Manners_or) l3 c3 k3).binds (ps := P_Manners_or) (fun _ _ _ _ _ _ us hl => match us, hl with | [_, _], _ => rfl),
    f_Manners_within := f4, d_Manners_within := _, F_Manners_within := fun_mk (st := s_Manners_within) l4 c4 k4, B_Manners_within := (fun_mk (st := s_Manners_within) l4 c4 k4).binds (ps := P_Manners_within) (fun _ _ _ _ _ _ us hl => match us, hl with | [_, _], _ => rfl),
    f_Profile_init := f5, d_Profile_init := _, e0_Profile_init := TE5, et_Profile_init := fun H => .inr ⟨_, _, _, te5, rfl, rfl, Nat.zero_le _, .nil⟩, F_Profile_init := ⟨⟨_, _, _, _, _, _, _, _, _, _, rfl, l5, c5, .inr ⟨by simp, TD5, _, [.ref TE5], _, rfl, td5, rfl, .cons rfl .nil⟩, .inl rfl⟩, k5⟩,
    f_Profile_is_quiet := f6, d_Profile_is_quiet := _, F_Profile_is_quiet := fun_mk (st := s_Profile_is_quiet) l6 c6 k6, B_Profile_is_quiet := (fun_mk (st := s_Profile_is_quiet) l6 c6 k6).binds (ps := P_Profile_is_quiet) (fun _ _ _ _ _ _ us hl => match us, hl with | [_], _ => rfl),
    f_Profile_greatest := f7, d_Profile_greatest := _, F_Profile_greatest := fun_mk (st := s_Profile_greatest) l7 c7 k7, B_Profile_greatest := (fun_mk (st := s_Profile_greatest) l7 c7 k7).binds (ps := P_Profile_greatest) (fun _ _ _ _ _ _ us hl => match us, hl with | [_], _ => rfl),
    f_Profile_within := f8, d_Profile_within := _, F_Profile_within := fun_mk (st := s_Profile_within) l8 c8 k8, B_Profile_within := (fun_mk (st := s_Profile_within) l8 c8 k8).binds (ps := P_Profile_within) (fun _ _ _ _ _ _ us hl => match us, hl with | [_, _], _ => rfl),
    f_Profile_contains := f9, d_Profile_contains := _, F_Profile_contains := fun_mk (st := s_Profile_contains) l9 c9 k9, B_Profile_contains := (fun_mk (st := s_Profile_contains) l9 c9 k9).binds (ps := P_Profile_contains) (fun _ _ _ _ _ _ us hl => match us, hl with | [_, _], _ => rfl),
    f_Profile_len := f10, d_Profile_len := _, F_Profile_len := fun_mk (st := s_Profile_len) l10 c10 k10, B_Profile_len := (fun_mk (st := s_Profile_len) l10 c10 k10).binds (ps := P_Profile_len) (fun _ _ _ _ _ _ us hl => match us, hl with | [_], _ => rfl),
    f_Profile_iter := f11, d_Profile_iter := _, F_Profile_iter := fun_mk (st := s_Profile_iter) l11 c11 k11, B_Profile_iter := (fun_mk (st := s_Profile_iter) l11 c11 k11).binds (ps := P_Profile_iter) (fun _ _ _ _ _ _ us hl => match us, hl with | [_], _ => rfl),
    f_Profile_eq := f12, d_Profile_eq := _, F_Profile_eq := fun_mk (st := s_Profile_eq) l12 c12 k12, B_Profile_eq := (fun_mk (st := s_Profile_eq) l12 c12 k12).binds (ps := P_Profile_eq) (fun _ _ _ _ _ _ us hl => match us, hl with | [_, _], _ => rfl),
    f_Profile_or := f13, d_Profile_or := _, F_Profile_or := fun_mk (st := s_Profile_or) l13 c13 k13, B_Profile_or := (fun_mk (st := s_Profile_or) l13 c13 k13).binds (ps := P_Profile_or) (fun _ _ _ _ _ _ us hl => match us, hl with | [_, _], _ => rfl),
    f_Profile_and := f14, d_Profile_and := _, F_Profile_and := fun_mk (st := s_Profile_and) l14 c14 k14, B_Profile_and := (fun_mk (st := s_Profile_and) l14 c14 k14).binds (ps := P_Profile_and) (fun _ _ _ _ _ _ us hl => match us, hl with | [_, _], _ => rfl),
    f_bag := f15, d_bag := _, F_bag := fun_mk (st := s_bag) l15 c15 k15, B_bag := (fun_mk (st := s_bag) l15 c15 k15).binds (ps := P_bag) (fun _ _ _ _ _ _ us hl => match us, hl with | [_, _], _ => rfl), g_bag := PySem.W.mg_of X G a15,
    f_take := f16, d_take := _, F_take := fun_mk (st := s_take) l16 c16 k16, B_take := (fun_mk (st := s_take) l16 c16 k16).binds (ps := P_take) (fun _ _ _ _ _ _ us hl => match us, hl with | [_, _], _ => rfl), g_take := PySem.W.mg_of X G a16,
    f_of := f17, d_of := _, F_of := fun_mk (st := s_of) l17 c17 k17, B_of := (fun_mk (st := s_of) l17 c17 k17).binds (ps := P_of) (fun _ _ _ _ _ _ us hl => match us, hl with | [_, _], _ => rfl), g_of := PySem.W.mg_of X G a17,
    f_eight := f18, d_eight := _, F_eight := fun_mk (st := s_eight) l18 c18 k18, B_eight := (fun_mk (st := s_eight) l18 c18 k18).binds (ps := P_eight) (fun _ _ _ _ _ _ us hl => match us, hl with | [], _ => rfl), g_eight := PySem.W.mg_of X G a18,
    f_manners := f19, d_manners := _, F_manners := fun_mk (st := s_manners) l19 c19 k19, B_manners := (fun_mk (st := s_manners) l19 c19 k19).binds (ps := P_manners) (fun _ _ _ _ _ _ us hl => match us, hl with | [_], _ => rfl), g_manners := PySem.W.mg_of X G a19,
    f_is := f20, d_is := _, F_is := fun_mk (st := s_is) l20 c20 k20, B_is := (fun_mk (st := s_is) l20 c20 k20).binds (ps := P_is) (fun _ _ _ _ _ _ us hl => match us, hl with | [_, _], _ => rfl), g_is := PySem.W.mg_of X G a20,
    f_part := f21, d_part := _, F_part := fun_mk (st := s_part) l21 c21 k21, B_part := (fun_mk (st := s_part) l21 c21 k21).binds (ps := P_part) (fun _ _ _ _ _ _ us hl => match us, hl with | [_, _], _ => rfl), g_part := PySem.W.mg_of X G a21,
    f_telling := f22, d_telling := _, F_telling := fun_mk (st := s_telling) l22 c22 k22, B_telling := (fun_mk (st := s_telling) l22 c22 k22).binds (ps := P_telling) (fun _ _ _ _ _ _ us hl => match us, hl with | [_], _ => rfl), g_telling := PySem.W.mg_of X G a22,
    f_least := f23, d_least := _, F_least := fun_mk (st := s_least) l23 c23 k23, B_least := (fun_mk (st := s_least) l23 c23 k23).binds (ps := P_least) (fun _ _ _ _ _ _ us hl => match us, hl with | [_], _ => rfl), g_least := PySem.W.mg_of X G a23,
    f_greatest := f24, d_greatest := _, F_greatest := fun_mk (st := s_greatest) l24 c24 k24, B_greatest := (fun_mk (st := s_greatest) l24 c24 k24).binds (ps := P_greatest) (fun _ _ _ _ _ _ us hl => match us, hl with | [_], _ => rfl), g_greatest := PySem.W.mg_of X G a24,
    f_fits := f25, d_fits := _, F_fits := fun_mk (st := s_fits) l25 c25 k25, B_fits := (fun_mk (st := s_fits) l25 c25 k25).binds (ps := P_fits) (fun _ _ _ _ _ _ us hl => match us, hl with | [_, _], _ => rfl), g_fits := PySem.W.mg_of X G a25,
    f_sets := f26, d_sets := _, F_sets := fun_mk (st := s_sets) l26 c26 k26, B_sets := (fun_mk (st := s_sets) l26 c26 k26).binds (ps := P_sets) (fun _ _ _ _ _ _ us hl => match us, hl with | [_], _ => rfl), g_sets := PySem.W.mg_of X G a26,
    f_law := fa, d_law := _, F_law := fun_mk (st := s_law) l27 c27 k27, B_law := (fun_mk (st := s_law) l27 c27 k27).binds (ps := P_law) (fun _ _ _ _ _ _ us hl => match us, hl with | [_], _ => rfl), g_law := PySem.W.mg_of X G a27,
    C_Manners := C0, g_Manners := PySem.W.mg_of X G gc0, cl_Manners := ⟨pg0, hd0, po0, sa0⟩,
    M_Manners := ⟨mk0, a0, i0, kc0⟩,
    na_Manners_names := na0_0,
    cr_Manners := ⟨rd0, cg0⟩,
    w_Manners_WORDS := W0_0, cv_Manners_WORDS := ⟨wc0_0, rfl⟩, ct_Manners_WORDS := fun H => .inr ⟨_, _, _, wl0_0, rfl, rfl, Nat.le_of_ble_eq_true rfl, .cons ⟨_, rfl⟩ (.cons ⟨_, rfl⟩ (.cons ⟨_, rfl⟩ (.nil)))⟩,
    p_Manners_every := SP1, sm_Manners_every := ⟨a1, ⟨_, r1⟩, k1⟩,
    m_Manners_eq := ⟨a2, i2, k2⟩,
    m_Manners_or := ⟨a3, i3, k3⟩,
    m_Manners_within := ⟨a4, i4, k4⟩,
    ic_Manners := ⟨xic_Manners_0, xic_Manners_1, xic_Manners_2, xic_Manners_3, xic_Manners_4, xic_Manners_5, xic_Manners_6⟩,
    C_Profile := C1, g_Profile := PySem.W.mg_of X G gc1, cl_Profile := ⟨pg1, hd1, po1, sa1⟩,
    M_Profile := ⟨mk1, a5, i5, kc1⟩,
    na_Profile_least_sets := na1_0,
    p_Profile_is_quiet := SP6, pr_Profile_is_quiet := ⟨a6, pg_6, pt_6, ⟨_, r6⟩⟩,
    m_Profile_greatest := ⟨a7, i7, k7⟩,
    m_Profile_within := ⟨a8, i8, k8⟩,
    m_Profile_contains := ⟨a9, i9, k9⟩,
    m_Profile_len := ⟨a10, i10, k10⟩,
    m_Profile_iter := ⟨a11, i11, k11⟩,
    m_Profile_eq := ⟨a12, i12, k12⟩,
    m_Profile_or := ⟨a13, i13, k13⟩,
    m_Profile_and := ⟨a14, i14, k14⟩,
    it_Profile := ⟨a11, i11⟩,
    ic_Profile := ⟨xic_Profile_0, xic_Profile_1, xic_Profile_2, xic_Profile_3, xic_Profile_4, xic_Profile_5, xic_Profile_6⟩,
    b_ValueError := PySem.W.mg_none_of X G z0,
    b_staticmethod := PySem.W.mg_none_of X G z1,
    b_classmethod := PySem.W.mg_none_of X G z2,
    b_property := PySem.W.mg_none_of X G z3,
    b_enumerate := PySem.W.mg_none_of X G z4,
    b_isinstance := PySem.W.mg_none_of X G z5,
    b_bool := PySem.W.mg_none_of X G z6,
    b_range := PySem.W.mg_none_of X G z7,
    b_tuple := PySem.W.mg_none_of X G z8,
    b_len := PySem.W.mg_none_of X G z9,
    b_all := PySem.W.mg_none_of X G z10,
    b_list := PySem.W.mg_none_of X G z11,
    b_any := PySem.W.mg_none_of X G z12,
    b_iter := PySem.W.mg_none_of X G z13,
    b_int := PySem.W.mg_none_of X G z14,
    b_max := PySem.W.mg_none_of X G z15,
    b_str := PySem.W.mg_none_of X G z16,
    b_abs := PySem.W.mg_none_of X G z17,
    b_min := PySem.W.mg_none_of X G z18,
    b_super := PySem.W.mg_none_of X G z19 }
  exact ⟨PySem.W.fnOf "law" "law" (defArgs s_law) (defBody s_law) (defScope s_law) .none kV27 dc27 pm27 an27 cd27 ct27, fun s v => .of_eq rfl, fun base _ _ => ok_law T⟩
theorem walk {l : PySem.W.OpenLaw} {q : Program} {loose : List Str} {XP : (Str → Option Value) → Heap → Prop} {YP : World → Heap → Prop} {d : DefRec} {K : Params → PySem.W.Frag} (hn : l.most = some 63) (hdf : d.params.defaults = [])
    (hY : ∀ (w : World) (h : Heap), YP w h → (K w.params).In h)
    (F : ∀ (w : World) (mg : Str → Option Value) (fa : Addr) (h : Heap), (K w.params).In h → h.Ns mainGlobals mg → mg d.name = some (.ref fa) →
      ∃ fd : FuncData, (∀ (s : Shared) (u : Value), BindsTo s fd ⟨[u], []⟩ [("_law_script", u)]) ∧ ∀ base : Heap, (K w.params).In base → base.Ns mainGlobals mg → FnOk l.prog w (K w.params) mg base CX0 8 fa fd ["_law_script"] (spLaw (K w.params))) :
    PySem.W.WalkO q loose XP YP l.row.toRowW d [] (fun f vs => PySem.call f vs) :=
  L2.walk_of (n := 63) (k := 8) (x := "_law_script") (CX := fun _ => CX0) (sp := fun w => spLaw (K w.params)) hn (by decide) hdf ⟨rfl, by decide, by decide⟩ hY F (fun _ _ a ns hl _ hS => ⟨a, ns, rfl, hS, hl, fun _ => rfl⟩) fun _ _ _ _ _ z => z
end K82

open PySem PySem.W PyProof.Rows in
set_option maxRecDepth 100000 in
set_option maxHeartbeats 0 in
theorem PySem.Challenge.cw_waypairs_k82_profiles_of_sets_holds : PySem.Challenge.rw_waypairs_k82_profiles_of_sets.Holds := by
  w_on; o_law; k_head; (case hw => w_witness2)
  k_fill
  refine K82.walk (l := PySem.Challenge.rw_waypairs_k82_profiles_of_sets) rfl rfl (fun w h Y => PySem.W.kIn_of Y) ?F
  case F =>
    intro w mg fa h KX G hmg
    refine' K82.all_mk KX G hmg ?gc0 ?pg0 ?hd0 ?po0 ?sa0 ?mk0 ?kc0 ?na0_0 ?rd0 ?cg0 ?wc0_0 ?wl0_0 ?xic_Manners_0 ?xic_Manners_1 ?xic_Manners_2 ?xic_Manners_3 ?xic_Manners_4 ?xic_Manners_5 ?xic_Manners_6 ?gc1 ?pg1 ?hd1 ?po1 ?sa1 ?mk1 ?kc1 ?na1_0 ?xic_Profile_0 ?xic_Profile_1 ?xic_Profile_2 ?xic_Profile_3 ?xic_Profile_4 ?xic_Profile_5 ?xic_Profile_6 ?a0 ?l0 ?c0 ?k0 ?i0 ?a1 ?r1 ?l1 ?c1 ?k1 ?a2 ?l2 ?c2 ?k2 ?i2 ?a3 ?l3 ?c3 ?k3 ?i3 ?a4 ?l4 ?c4 ?k4 ?i4 ?a5 ?l5 ?c5 ?k5 ?i5 ?td5 ?te5 ?a6 ?pg_6 ?pt_6 ?r6 ?l6 ?c6 ?k6 ?a7 ?l7 ?c7 ?k7 ?i7 ?a8 ?l8 ?c8 ?k8 ?i8 ?a9 ?l9 ?c9 ?k9 ?i9 ?a10 ?l10 ?c10 ?k10 ?i10 ?a11 ?l11 ?c11 ?k11 ?i11 ?a12 ?l12 ?c12 ?k12 ?i12 ?a13 ?l13 ?c13 ?k13 ?i13 ?a14 ?l14 ?c14 ?k14 ?i14 ?a15 ?l15 ?c15 ?k15 ?a16 ?l16 ?c16 ?k16 ?a17 ?l17 ?c17 ?k17 ?a18 ?l18 ?c18 ?k18 ?a19 ?l19 ?c19 ?k19 ?a20 ?l20 ?c20 ?k20 ?a21 ?l21 ?c21 ?k21 ?a22 ?l22 ?c22 ?k22 ?a23 ?l23 ?c23 ?k23 ?a24 ?l24 ?c24 ?k24 ?a25 ?l25 ?c25 ?k25 ?a26 ?l26 ?c26 ?k26 ?a27 ?l27 ?c27 ?k27 ?z0 ?z1 ?z2 ?z3 ?z4 ?z5 ?z6 ?z7 ?z8 ?z9 ?z10 ?z11 ?z12 ?z13 ?z14 ?z15 ?z16 ?z17 ?z18 ?z19
    (case gc0 => k_is)
    (case pg0 => k_is)
    (case hd0 => k_is)
    (case po0 => k_is)
    (case sa0 => k_is)
    (case mk0 => k_is)
    (case kc0 => k_is)
    (case na0_0 => k_is)
    (case rd0 => k_is)
    (case cg0 => k_is)
    (case wc0_0 => k_is)
    (case wl0_0 => k_is)
    (case xic_Manners_0 => k_is)
    (case xic_Manners_1 => k_is)
    (case xic_Manners_2 => k_is)
    (case xic_Manners_3 => k_is)
    (case xic_Manners_4 => k_is)
    (case xic_Manners_5 => k_is)
    (case xic_Manners_6 => k_is)
    (case gc1 => k_is)
    (case pg1 => k_is)
    (case hd1 => k_is)
    (case po1 => k_is)
    (case sa1 => k_is)
    (case mk1 => k_is)
    (case kc1 => k_is)
    (case na1_0 => k_is)
    (case xic_Profile_0 => k_is)
    (case xic_Profile_1 => k_is)
    (case xic_Profile_2 => k_is)
    (case xic_Profile_3 => k_is)
    (case xic_Profile_4 => k_is)
    (case xic_Profile_5 => k_is)
    (case xic_Profile_6 => k_is)
    (case a0 => k_is)
    (case l0 => k_is)
    (case c0 => k_is)
    (case k0 => k_is)
    (case i0 => k_is)
    (case a1 => k_is)
    (case r1 => k_is)
    (case l1 => k_is)
    (case c1 => k_is)
    (case k1 => k_is)
    (case a2 => k_is)
    (case l2 => k_is)
    (case c2 => k_is)
    (case k2 => k_is)
    (case i2 => k_is)
    (case a3 => k_is)
    (case l3 => k_is)
    (case c3 => k_is)
    (case k3 => k_is)
    (case i3 => k_is)
    (case a4 => k_is)
    (case l4 => k_is)
    (case c4 => k_is)
    (case k4 => k_is)
    (case i4 => k_is)
    (case a5 => k_is)
    (case l5 => k_is)
    (case c5 => k_is)
    (case k5 => k_is)
    (case i5 => k_is)
    (case td5 => k_is)
    (case te5 => k_is)
    (case a6 => k_is)
    (case pg_6 => k_is)
    (case pt_6 => k_is)
    (case r6 => k_is)
    (case l6 => k_is)
    (case c6 => k_is)
    (case k6 => k_is)
    (case a7 => k_is)
    (case l7 => k_is)
    (case c7 => k_is)
    (case k7 => k_is)
    (case i7 => k_is)
    (case a8 => k_is)
    (case l8 => k_is)
    (case c8 => k_is)
    (case k8 => k_is)
    (case i8 => k_is)
    (case a9 => k_is)
    (case l9 => k_is)
    (case c9 => k_is)
    (case k9 => k_is)
    (case i9 => k_is)
    (case a10 => k_is)
    (case l10 => k_is)
    (case c10 => k_is)
    (case k10 => k_is)
    (case i10 => k_is)
    (case a11 => k_is)
    (case l11 => k_is)
    (case c11 => k_is)
    (case k11 => k_is)
    (case i11 => k_is)
    (case a12 => k_is)
    (case l12 => k_is)
    (case c12 => k_is)
    (case k12 => k_is)
    (case i12 => k_is)
    (case a13 => k_is)
    (case l13 => k_is)
    (case c13 => k_is)
    (case k13 => k_is)
    (case i13 => k_is)
    (case a14 => k_is)
    (case l14 => k_is)
    (case c14 => k_is)
    (case k14 => k_is)
    (case i14 => k_is)
    (case a15 => k_is)
    (case l15 => k_is)
    (case c15 => k_is)
    (case k15 => k_is)
    (case a16 => k_is)
    (case l16 => k_is)
    (case c16 => k_is)
    (case k16 => k_is)
    (case a17 => k_is)
    (case l17 => k_is)
    (case c17 => k_is)
    (case k17 => k_is)
    (case a18 => k_is)
    (case l18 => k_is)
    (case c18 => k_is)
    (case k18 => k_is)
    (case a19 => k_is)
    (case l19 => k_is)
    (case c19 => k_is)
    (case k19 => k_is)
    (case a20 => k_is)
    (case l20 => k_is)
    (case c20 => k_is)
    (case k20 => k_is)
    (case a21 => k_is)
    (case l21 => k_is)
    (case c21 => k_is)
    (case k21 => k_is)
    (case a22 => k_is)
    (case l22 => k_is)
    (case c22 => k_is)
    (case k22 => k_is)
    (case a23 => k_is)
    (case l23 => k_is)
    (case c23 => k_is)
    (case k23 => k_is)
    (case a24 => k_is)
    (case l24 => k_is)
    (case c24 => k_is)
    (case k24 => k_is)
    (case a25 => k_is)
    (case l25 => k_is)
    (case c25 => k_is)
    (case k25 => k_is)
    (case a26 => k_is)
    (case l26 => k_is)
    (case c26 => k_is)
    (case k26 => k_is)
    (case a27 => k_is)
    (case l27 => k_is)
    (case c27 => k_is)
    (case k27 => k_is)
    (case z0 => k_is)
    (case z1 => k_is)
    (case z2 => k_is)
    (case z3 => k_is)
    (case z4 => k_is)
    (case z5 => k_is)
    (case z6 => k_is)
    (case z7 => k_is)
    (case z8 => k_is)
    (case z9 => k_is)
    (case z10 => k_is)
    (case z11 => k_is)
    (case z12 => k_is)
    (case z13 => k_is)
    (case z14 => k_is)
    (case z15 => k_is)
    (case z16 => k_is)
    (case z17 => k_is)
    (case z18 => k_is)
    (case z19 => k_is)
#print axioms PySem.Challenge.cw_waypairs_k82_profiles_of_sets_holds
