import PyProof.Rows.All
import Wide.All
import OpenK.AllK
import Wide.FinOn
import HandS.ForMost
import HandS.Zip
import HandS.Walk
import HandS.IsInst
import HandS.Evl
import HandS.Defaults
import HandS.Style
import KE.GoesEnum
import HandS.OwnEq
import HandS.More
import PyProof.ReprRoads
import PyProof.ReprLen
import PyProof.CallFns
import HandS.Words
import HandS.Small
import HandS.Nested
import HandS.ExcInit
import KE.KExcSuper
import KE.KSuper
import HandS.ExcField
import HandS.MakeKw
import HandS.ExcIs
import HandS.ExcValue
import KE.KExcIs
import HandS.MakeKwOnly
import KE.KIsAll
import KE.KTryMore
import HandS.OwnIter
import HandS.IterNext
import HandS.ClsMeth
import HandS.Star
import HandS.TupAny
import HandS.ExcOwn
import HandS.Strs
import HandS.SetFor
import HandS.Text
import HandS.Codes
import PyProof.ReprText
import HandS.Wide
import HandS.WordsExc
import HandS.TryOnly
import PySem.Challenge.RW_waypairs_k03_houses_refused
set_option Elab.async false
set_option linter.all false
set_option maxRecDepth 100000
set_option maxHeartbeats 4000000
/-! enumerate over a tuple -/
namespace Way
open PySem PySem.Spec PyProof.Rows L2
set_option maxHeartbeats 1000000 in
theorem meets_enumerate_newT {v : Value} {o : Obj} {H : Heap → Prop} (B : Begins v o H) :
    Meets (Builtin.«enumerate.__new__» ⟨[.type "enumerate", v], []⟩) (fun _ R s => H s.heap ∧
      R (.ok (.ret (.ref (s.heap.push o).objs.size))) { s with heap := (s.heap.push o).push { cls := .type "enumerate", data := .fields #[.none, .bool false, .ref s.heap.objs.size, rawInt 0, .none, .none] } }) :=
  .of_wp fun prog w A R s h => by
    obtain ⟨hp, g, d, tk, os⟩ := s; obtain ⟨h1, h⟩ := h
    have hsub := sub_enumerate
    have q1 : ∀ {A' : Around} {E : Value → Shared → Prop} {Q : Value → Shared → Prop}, Q (.ref hp.objs.size) ⟨hp.push o, g, d, tk, os⟩ → wpAny (model prog w) A' (pyIter v) Q E ⟨hp, g, d, tk, os⟩ :=
      fun q => B.iter prog w _ _ ⟨hp, g, d, tk, os⟩ _ h1 q
    wp_walk using q1
    refine wpAny_stack_any fun st => wpAny_pure ?_
    split
    · rename_i c _ _ _ _ _
      cases (c == Value.type "enumerate")
      · wp_walk using q1
        exact ⟨_, rfl, h⟩
      · wp_walk using q1
        exact ⟨_, rfl, h⟩
    · wp_walk using q1
      exact ⟨_, rfl, h⟩
theorem enum_beginsT {prog : Program} {w : World} {A : Around} {E : Value → Shared → Prop} {s : Shared} {v : Value} {o : Obj} {H : Heap → Prop} {Q : Value → Shared → Prop} (B : Begins v o H) (h1 : H s.heap)
    (h : ∀ h', IsEnum h' (s.heap.objs.size + 1) s.heap.objs.size 0 .none → h'.get? s.heap.objs.size = some o → h'.objs.size = s.heap.objs.size + 2 →
      (∀ b o, s.heap.get? b = some o → h'.get? b = some o) → Q (.ref (s.heap.objs.size + 1)) { s with heap := h' }) :
    wpAny (model prog w) A (call (.type "enumerate") [v]) Q E s := by
  refine callType_new F.called_enumerate (by decide) (F.typeCall_enumerate_1 _) (F.newCall_enumerate_1 _) (fun obj => F.args_object_init_2 obj _) F.entry_enumerate_new
    (meets_enumerate_newT B) ⟨h1, ?_⟩
  have hz : (s.heap.push o).objs.size = s.heap.objs.size + 1 := Heap.size_push ..
  show _ ∧ _
  rw [hz]
  have he : IsEnum ((s.heap.push o).push { cls := .type "enumerate", data := .fields #[.none, .bool false, .ref s.heap.objs.size, rawInt 0, .none, .none] }) (s.heap.objs.size + 1) s.heap.objs.size 0 .none := by
    have := Heap.get?_push_size (s.heap.push o) (o := { cls := .type "enumerate", data := .fields #[.none, .bool false, .ref s.heap.objs.size, rawInt 0, .none, .none] }) rfl
    rw [hz] at this; exact this
  refine ⟨⟨_, he, rfl⟩, h _ he (Heap.get?_push_of_some _ (Heap.get?_push_size _ B.free)) (by rw [Heap.size_push, hz]) fun b o x => Heap.get?_push_of_some _ (Heap.get?_push_of_some _ x)⟩

/-- the tuple at a, each item in a new pair with its number -/
def IteT (K : PySem.W.Frag) (a : Addr) : It :=
  ⟨fun i H => ∃ (xs : List V) (x : V), SqT K H a xs ∧ xs[i]? = some x, fun i H v H' => ∃ T x, v = .ref T ∧ H T = none ∧ H' = upd H T (.tup [.int (i : Nat), x]) ∧ ∀ xs, SqT K H a xs → xs[i]? = some x, fun i H => ∃ xs : List V, SqT K H a xs ∧ xs.length ≤ i⟩
theorem apart_tupIter {h : Heap} {a it : Addr} {i : Nat} {its : Array Value} (ht : h.IsTuple a its) (hi : h.IsTupleIter it a i) : a ≠ it := by
  rintro rfl
  obtain ⟨o, ho, hc, _⟩ := ht
  obtain ⟨o', ho', hc', _⟩ := hi
  rw [ho] at ho'
  cases ho'
  rw [hc] at hc'
  exact absurd hc' (by decide)
theorem turn_enumT {P : Program} {w : World} {K : PySem.W.Frag} {elts : List Expr} {kk : Nat} {tpos : Pos} (a e it : Addr) :
    Turn P w K (.Tuple elts kk tpos) (IteT K a) [e, it] e (fun i h => (∃ old, IsEnum h e it ((i : Nat) : Int) old) ∧ h.IsTupleIter it a i ∧ e ≠ it) where
  mem := by simp
  obj := fun i h st b hb => by
    obtain ⟨⟨old, he⟩, ⟨o, ho, hc, hd⟩, _⟩ := st
    have e' : b = e ∨ b = it := by simpa using hb
    rcases e' with z | z
    · rw [z]; exact ⟨_, he, fun v q => nomatch q⟩
    · rw [z]; exact ⟨o, ho, fun v q => by rw [hd] at q; cases q⟩
  keep := fun i h h' st k => let ⟨⟨old, he⟩, hi, hne⟩ := st; ⟨⟨old, k e (by simp) _ he⟩, hi.at fun o q => k it (by simp) o q, hne⟩
  item := by
    intro X hP hw hK hc i pins s σ H E I hf st hg
    subst hP hw hK
    obtain ⟨⟨old, he⟩, hit, hne⟩ := st
    obtain ⟨xs, x, hq, hx⟩ := hg
    obtain ⟨its, rv, p, hz⟩ := I.tuple hq
    have p' : s.heap.IsTuple a its.toArray := p
    obtain ⟨u, hu, ru⟩ := rv.get hx
    have hai := apart_tupIter p' hit
    have hae : a ≠ e := by
      rintro rfl
      obtain ⟨o, ho, hc', _⟩ := p'
      rw [he] at ho
      cases ho
      exact absurd (show Value.type "enumerate" = Value.type "tuple" from hc') (by decide)
    have hel : e < s.heap.objs.size := Heap.lt_size he
    have hil : it < s.heap.objs.size := by obtain ⟨_, q, _⟩ := hit; exact Heap.lt_size q
    have hi : i < its.toArray.size := by
      have q := (List.getElem?_eq_some_iff.mp hu).1
      simpa using q
    refine wpAny_pyNext_enum_itemD (Draws.tuple (A := X.A.in1) (I.ok.hd hc) it a hai its.toArray) he ⟨hit, p'⟩ hi hne (by simp; exact ⟨hne, hae.symm⟩) fun y h' tk hP ho hs' hT hsz hk => ?_
    obtain ⟨hit', _⟩ := hs'
    have ey : y = u := by
      have hP' : its.toArray[i]? = some y := hP
      have hu' : its.toArray[i]? = some u := by simpa using hu
      rw [hu'] at hP'
      exact (Option.some.inj hP').symm
    subst ey
    refine ⟨_, rfl, wpAny_letOwnedTupleGo_enum (s := { s with heap := h', toks := tk + 1 }) ho fun h'' he' sb => ?_⟩
    have hT2 : h''.get? s.heap.objs.size = some { cls := .type "tuple", data := .seq #[.int i tk, y] } := (sb.2 _ (Nat.ne_of_gt hel)).trans hT
    have new : ObjOk X.prog X.w (upd H s.heap.objs.size (.tup [.int (i : Nat), x])) h'' s.heap.objs.size (.tup [.int (i : Nat), x]) :=
      ⟨by show 2 ≤ sizeLine; decide, [.int i tk, y], .cons ⟨_, rfl⟩ (.cons ru .nil), ⟨_, hT2, rfl, _, rfl⟩⟩
    have I1 : Inv X pins σ (upd H s.heap.objs.size (.tup [.int (i : Nat), x])) { s with heap := h'', toks := tk + 1 } :=
      I.turnedNew (ch := [e, it]) (fun b ob hb q => (sb.2 b (fun z => hb (by simp [z]))).trans (hk b ob (fun z => hb (by simp [z])) (fun z => hb (by simp [z])) q)) hf (Nat.le_refl _) new
    refine ⟨.ref s.heap.objs.size, _, I1, rfl, ⟨_, x, rfl, I.hok.fresh (Nat.le_refl _), rfl, fun ys hy => by rw [I.tuple_inj hy hq]; exact hx⟩, ⟨⟨y, ?_⟩, hit'.at fun o q => (sb.2 it (Ne.symm hne)).trans q, hne⟩, fun b hb => ?_⟩
    · have e1 : ((i + 1 : Nat) : Int) = (i : Int) + 1 := by omega
      rw [e1]; exact he'
    · have hb' : b < s.heap.objs.size := by
        have e' : b = e ∨ b = it := by simpa using hb
        rcases e' with z | z
        · rw [z]; exact hel
        · rw [z]; exact hil
      rw [upd_ne (Nat.ne_of_lt hb')]
      exact (hf b hb).1
  done := by
    intro X hP hw hK hc i pins s σ H E I hf st hg
    subst hP hw hK
    obtain ⟨⟨old, he⟩, hit, hne⟩ := st
    obtain ⟨xs, hq, hx⟩ := hg
    obtain ⟨its, rv, p, hz⟩ := I.tuple hq
    have p' : s.heap.IsTuple a its.toArray := p
    obtain ⟨f0, f1, f2, f3, f4, f5⟩ := hf it (by simp)
    have hl := rv.length
    have hT : s.TypeIs (.ref e) "enumerate" := ⟨_, he, rfl⟩
    unfold pyNext
    refine wpAny_bind (wpAny_attempt (wpAny_callSpecial?_slot (name := Str.ofString "__next__") hT F.slot_enumerate_next
      (wpAny_call_entry F.slot_enumerate_next hT F.entry_enumerate_next ?_ (F.args_enumerate_next_1 _))))
    show wpAny _ _ (field (.ref e) 2 >>= _) _ _ _
    refine wpAny_bind (wpAny_field he rfl (x := .ref it) rfl ?_)
    refine wpAny_bind (RZ.nextOf_tuple_end (I.ok.hd hc) hit p' (by simp; omega) fun h' x he' hx' => ?_)
    obtain ⟨o, ho, hc⟩ := hx'
    refine wpAny_bind (wpAny_isInstance (T := "StopIteration") (b := true) ⟨o, ho, hc⟩ isSubtype_stop ?_)
    exact wpAny_pure ⟨rfl, I.turned (t' := s.toks) (fun b o hb q => he' b o hb q) f0 f1 f3 f4 f5⟩
  self := fun A i s Q E st h => let ⟨⟨_, he⟩, _⟩ := st; wpAny_pyIter_enum he h
def iEnumT (K : PySem.W.Frag) (ta : TA) : TI := fun σ H R => ta σ H fun vs H1 => ∃ a xs, vs = [.ref a] ∧ SqT K H1 a xs ∧ R (IteT K a) H1
theorem pi_enumT {X : Cx} {e : Expr} {ta : TA} {p pos tpos : Pos} {elts : List Expr} {kk : Nat} (hg : Gl X "enumerate") (hm : X.mg "enumerate" = none) (ha : PA X [e] ta) (hs : starEach [e] X.env = [(false, eval e X.env)] := by rfl) :
    PI X (.Tuple elts kk tpos) (.Call (.Name "enumerate" p) [e] [] pos) (iEnumT X.K ta) := by
  refine ⟨fun pins s σ H R I h => ?_⟩
  refine Call_ (ld_blt I hg hm boot_enumerate (PyProof.Rows.callWith_type1 (thn (ha.run pos pins s σ H _ I h) fun us s1 ⟨vs, H1, I1, r1, q1⟩ => ?_) hs rfl))
  obtain ⟨a, xs, ex, hq, q⟩ := q1
  subst ex
  cases r1 with
  | cons r rr =>
    cases rr
    cases r
    obtain ⟨its, rv, p', hz⟩ := I1.tuple hq
    have p'' : s1.heap.IsTuple a its.toArray := p'
    refine enum_beginsT (begins_tuple a its.toArray) p'' fun h' he hit hsz hk => wpAny_pyIter_enum he ?_
    have I2 : Inv X pins σ H1 { s1 with heap := h' } := I1.kept (t' := s1.toks) hk
    refine ⟨s1.heap.objs.size + 1, [s1.heap.objs.size + 1, s1.heap.objs.size], _, _, H1, rfl, I2, turn_enumT a (s1.heap.objs.size + 1) s1.heap.objs.size, ⟨⟨.none, he⟩, ⟨_, hit, rfl, rfl⟩, Nat.succ_ne_self _⟩, fun b hb => ?_, q⟩
    have e' : b = s1.heap.objs.size + 1 ∨ b = s1.heap.objs.size := by simpa using hb
    have hle : s1.heap.objs.size ≤ b := by
      rcases e' with z | z
      · rw [z]; exact Nat.le_add_right _ _
      · rw [z]; exact Nat.le_refl _
    exact I1.fpOk hle (I1.hok.fresh hle)
theorem walk_enumT {K : PySem.W.Frag} {a : Addr} {xs : List V} : Walk (IteT K a) xs.length (fun H => SqT K H a xs) (YPair (fun i => some (.int (i : Nat))) (fun i => xs[i]?)) := by
  refine ⟨fun i _ hi q => ⟨xs, xs[i], q, by simp [hi]⟩, fun _ q => ⟨xs, q, Nat.le_refl _⟩, fun i H v H' _ q y => ?_⟩
  obtain ⟨T, x, h1, h2, h3, h4⟩ := y
  exact ⟨T, .int (i : Nat), x, h1, h2, h3, rfl, h4 xs q⟩

/-! f(k = v, ..): keywords alone -/
section
variable {X : Cx} {CX : CXT} {k : Nat} {f : Addr} {fd : FuncData} {ps ks : List Str} {sp : Sp} {x : Str} {kws : List Keyword} {tk : TA} {E : XK} {p pos : Pos} {g : List Value → List Value → List Value} {gV : List V → List V → List V}
theorem pe_callK0 (F : FnOk X.prog X.w X.K X.mg X.base CX k f fd ps sp) (hr : Room k X.A) (hg : Gl X x) (hm : X.mg x = some (.ref f)) (hk : PySem.W.keepIn X.K (.ref f) = true) (hb : KBinds X.K fd ps ks g gV) (hx : Passes CX X E)
    (hkw : PK X kws tk) (hall : (backToKw pos (keywordEach kws X.env)).all (·.1.isSome) = true := by rfl) (hks : (backToKw pos (keywordEach kws X.env)).filterMap (·.1) = ks := by rfl)
    (hdb : (x == ("__debug__" : Str)) = false := by decide)
    (hpl : ((backTo pos (starEach [] X.env)).any (·.1) || (backToKw pos (keywordEach kws X.env)).any (·.1.isNone)) = false := by rfl) :
    PE X (.Call (.Name x p) [] kws pos) (tCallK sp gV E tNil tk) := by
  refine ⟨fun pins s σ H Q I h => ?_⟩
  refine wpAny_Call_Name_kw (ld_glob I hg hm ?_ hdb)
  refine PySem.W.callWith_KW0 (h₀ := X.base) I.ok.mod.kin hk hall ?_ hpl
  refine thn (hkw.run pos pins s σ H _ I h) fun ws s2 ⟨zs, H2, I2, rz, q2⟩ => ⟨I2.kIn, ?_⟩
  rw [hks]
  exact run_fnk (us := []) (vs := []) F hr hb hx I2 .nil rz q2
end

/-! heaps -/
theorem Same.new {H H' : Hp} {p : Addr} {o : HO} (s : Same H H') (h : H p = none) : Same H (upd H' p o) := fun b u e => by
  rw [upd_ne (ne_of_none e h)]
  exact s b u e
theorem Same.new' {H H' : Hp} {p : Addr} {o : HO} (s : Same H H') (h : H' p = none) : Same H (upd H' p o) := Same.new s (s.free h)
theorem Same.tup {K : PySem.W.Frag} {H H' : Hp} {a : Addr} {xs : List V} (e : Same H H') (h : SqT K H a xs) : SqT K H' a xs := by
  rcases h with (h | ⟨o, h⟩) | h
  · exact .inl (.inl (e _ _ h))
  · exact .inl (.inr ⟨o, e _ _ h⟩)
  · exact .inr h
/-- all but the object at s is as it was -/
def Kp (s : Addr) (H H' : Hp) : Prop := ∀ b o, b ≠ s → H b = some o → H' b = some o
theorem Kp.refl (s : Addr) (H : Hp) : Kp s H H := fun _ _ _ h => h
theorem Kp.trans {s : Addr} {H H1 H2 : Hp} (a : Kp s H H1) (b : Kp s H1 H2) : Kp s H H2 := fun c o n h => b c o n (a c o n h)
theorem Kp.of {s : Addr} {H H' : Hp} (a : Same H H') : Kp s H H' := fun c o _ h => a c o h
theorem Kp.set {s : Addr} {H H' : Hp} {o : HO} (a : Kp s H H') : Kp s H (upd H' s o) := fun c u n h => by rw [upd_ne n]; exact a c u n h
theorem Kp.new {s p : Addr} {H H' : Hp} {o : HO} (a : Kp s H H') (n : H p = none) : Kp s H (upd H' p o) := fun c u nc h => by
  rw [upd_ne (ne_of_none h n)]; exact a c u nc h
theorem Kp.free {s p : Addr} {H H' : Hp} (a : Kp s H H') (ns : p ≠ s) (n : H' p = none) : H p = none := by
  cases q : H p with
  | none => rfl
  | some o => rw [a p o ns q] at n; cases n
theorem flat_ints (l : List Int) : (l.map V.int).all flatV = true := by
  induction l with
  | nil => rfl
  | cons a r ih => rw [List.map_cons, List.all_cons, ih]; rfl
theorem flat_strs (l : List Str) : (l.map V.str).all flatV = true := by
  induction l with
  | nil => rfl
  | cons a r ih => rw [List.map_cons, List.all_cons, ih]; rfl
theorem inV_ints (i : Int) (l : List Int) : inV (.int i) (l.map V.int) = l.contains i := by
  induction l with
  | nil => rfl
  | cons a r ih =>
    unfold inV at ih
    unfold inV
    rw [List.map_cons, List.any_cons, ih, List.contains_cons]
    congr 1
    show decide (a = i) = (i == a)
    by_cases h : a = i
    · subst h; simp
    · rw [decide_eq_false h]
      exact (beq_eq_false_iff_ne.mpr (fun q => h q.symm)).symm
/-! evaluation without effect -/
section
open Evl
variable {K : PySem.W.Frag} {H : Hp} {σ : L2.St} {t : TT} {te tl : TE}
theorem el_lcT {a : Addr} {xs : List V} {j : Nat} {vs : List Nat} (f : Nat → Bool) (v : Nat → V) (h : Ev tl σ H (.ref a)) (hx : SqT K H a xs) (hz : xs.length ≤ 40000) (hw : ∀ x, wipe ((wipe σ vs).set j (some x)) vs = wipe σ vs)
    (ht : ∀ (i : Nat) (x : V) H1, Ex H H1 → xs[i]? = some x → EvT t ((wipe σ vs).set j (some x)) H1 (f i)) (he : ∀ (i : Nat) (x : V) H1, Ex H H1 → xs[i]? = some x → f i = true → Ev te ((wipe σ vs).set j (some x)) H1 (v i)) :
    EvL (tLc (iTup K tl) (gName j) t te vs) σ H (given xs.length f v) := fun H0 e Q q => h H0 e _ fun H1 e1 => ⟨a, rfl, ⟨xs, ex_t (e.trans e1) hx⟩, fun Dl hD =>
  lc_tup (xs := xs) (Cw H1 f v Dl) ⟨hD, Ex.new hD, upd_same⟩ (fun i H' _ p => ex_t ((e.trans e1).trans p.2.1) hx) (fun i x H' hi p => ⟨hw x, cw_turn p (by have := (List.getElem?_eq_some_iff.mp hi).1; omega) (ht i x H1 (e.trans e1) hi) (fun hf => he i x H1 (e.trans e1) hi hf)⟩)
    (fun H' p => q Dl H' (fresh_back e1 p.1) (e1.trans p.2.1) p.2.2)⟩
theorem rv_isN {x : V} : RV (fun x y H Q => y = V.non ∧ Q (.bl (decide (x = V.non))) H) x .non H (.bl (decide (x = .non))) := fun H1 _ _ q => ⟨rfl, q H1 (Ex.refl H1)⟩
theorem rv_notN {x : V} : RV (fun x y H Q => y = V.non ∧ Q (.bl (!decide (x = V.non))) H) x .non H (.bl (!decide (x = .non))) := fun H1 _ _ q => ⟨rfl, q H1 (Ex.refl H1)⟩
theorem rc_isi {x c : V} {t u : Value} {b : Bool} (k : ClsV c u) (ty : ∀ H1, Ex H H1 → TyX K H1 x t) (e : PySem.W.kitOne K t u = some b) : RC (rIsi K) [x, c] H (.bl b) := fun H1 e1 _ q => ⟨x, c, t, u, b, rfl, k, ty H1 e1, e, q H1 (Ex.refl H1)⟩
theorem ty_tup {a : Addr} {xs : List V} (h : H a = some (.tup xs)) : ∀ H1, Ex H H1 → TyX K H1 (.ref a) (.type "tuple") := fun H1 e => .base (.tup (e _ _ h))
theorem ty_lst {a : Addr} {xs : List V} (h : H a = some (.lst xs)) : ∀ H1, Ex H H1 → TyX K H1 (.ref a) (.type "list") := fun H1 e => .base (.lst (e _ _ h))
theorem ty_bl {b : Bool} : ∀ H1, Ex H H1 → TyX K H1 (.bl b) (.type "bool") := fun H1 e => .base (.bl b)
theorem ty_int {i : Int} : ∀ H1, Ex H H1 → TyX K H1 (.int i) (.type "int") := fun H1 e => .base (.int i)
theorem ty_str {x : Str} : ∀ H1, Ex H H1 → TyX K H1 (.str x) (.type "str") := fun H1 e => .base (.str x)
theorem ty_non : ∀ H1, Ex H H1 → TyX K H1 .non (.type "NoneType") := fun H1 e => .base .non
theorem rc_lenL {p : Addr} {xs : List V} (h : SqL K H p xs) : RC (fun xs H Q => ∃ p ys, xs = [V.ref p] ∧ (SqL K H p ys ∨ SqT K H p ys) ∧ Q (.int ys.length) H) [.ref p] H (.int (xs.length : Int)) := fun H1 e _ q => ⟨p, xs, rfl, .inl (ex_l e h), q H1 (Ex.refl H1)⟩
theorem rc_lenT {p : Addr} {xs : List V} (h : SqT K H p xs) : RC (fun xs H Q => ∃ p ys, xs = [V.ref p] ∧ (SqL K H p ys ∨ SqT K H p ys) ∧ Q (.int ys.length) H) [.ref p] H (.int (xs.length : Int)) := fun H1 e _ q => ⟨p, xs, rfl, .inr (ex_t e h), q H1 (Ex.refl H1)⟩
theorem rv_eqD {x y : V} {d e : PyData} (h1 : ∀ H1, Ex H H1 → Dp K H1 x d) (h2 : ∀ H1, Ex H H1 → Dp K H1 y e) (s1 : SeqAt.shaped d = true) (s2 : SeqAt.shaped e = true) : RV (rEqD K) x y H (.bl (PyData.eqv d e)) :=
  fun H1 e1 _ q => ⟨d, e, h1 H1 e1, h2 H1 e1, s1, s2, q H1 (Ex.refl H1)⟩
theorem rv_neD {x y : V} {d e : PyData} (h1 : ∀ H1, Ex H H1 → Dp K H1 x d) (h2 : ∀ H1, Ex H H1 → Dp K H1 y e) (s1 : SeqAt.shaped d = true) (s2 : SeqAt.shaped e = true) : RV (rNeD K) x y H (.bl (!PyData.eqv d e)) :=
  fun H1 e1 _ q => ⟨d, e, h1 H1 e1, h2 H1 e1, s1, s2, q H1 (Ex.refl H1)⟩
theorem dp_bls : ∀ l : List Bool, DpAll K H (l.map V.bl) (l.map PyData.bool)
  | [] => .nil
  | b :: r => .cons (.bl b) (dp_bls r)
theorem dp_ints : ∀ l : List Int, DpAll K H (l.map V.int) (l.map PyData.int)
  | [] => .nil
  | b :: r => .cons (.int b) (dp_ints r)
theorem dp_strs : ∀ l : List Str, DpAll K H (l.map V.str) (l.map PyData.str)
  | [] => .nil
  | b :: r => .cons (.str b) (dp_strs r)
theorem dp_tupB {a : Addr} {l : List Bool} (h : H a = some (.tup (l.map V.bl))) : ∀ H1, Ex H H1 → Dp K H1 (.ref a) (.tuple (l.map PyData.bool)) := fun H1 e => .tup (SqT.of (e _ _ h)) (dp_bls l)
theorem dp_nil {a : Addr} (h : H a = some (.lst [])) : ∀ H1, Ex H H1 → Dp K H1 (.ref a) (.list []) := fun H1 e => .lst (SqL.of (e _ _ h)) .nil
end
/-! shapes of data -/
def Shp (n : Nat) (d : PyData) : Prop := d.canLay0 = true ∧ d.depth ≤ n
theorem shp_all {n : Nat} : ∀ {ds : List PyData}, (∀ d ∈ ds, Shp n d) → PyData.canLayAll0 ds = true ∧ PyData.depthAll ds ≤ n
  | [], _ => ⟨rfl, Nat.zero_le _⟩
  | d :: r, h => by
    obtain ⟨h1, h2⟩ := shp_all (ds := r) fun x hx => h x (List.mem_cons_of_mem _ hx)
    obtain ⟨g1, g2⟩ := h d (List.mem_cons_self ..)
    refine ⟨by simp only [PyData.canLayAll0, g1, h1, Bool.and_self], ?_⟩
    simp only [PyData.depthAll]
    omega
theorem shp_tup {n : Nat} {ds : List PyData} (h : ∀ d ∈ ds, Shp n d) : Shp (n + 1) (.tuple ds) := by
  obtain ⟨h1, h2⟩ := shp_all h
  exact ⟨by simpa only [PyData.canLay0] using h1, by simp only [PyData.depth]; omega⟩
theorem shp_lst {n : Nat} {ds : List PyData} (h : ∀ d ∈ ds, Shp n d) : Shp (n + 1) (.list ds) := by
  obtain ⟨h1, h2⟩ := shp_all h
  exact ⟨by simpa only [PyData.canLay0] using h1, by simp only [PyData.depth]; omega⟩
theorem shp_bl {n : Nat} {b : Bool} : Shp n (.bool b) := ⟨by simp only [PyData.canLay0], by simp only [PyData.depth]; omega⟩
theorem shp_int {n : Nat} {b : Int} : Shp n (.int b) := ⟨by simp only [PyData.canLay0], by simp only [PyData.depth]; omega⟩
theorem shp_non {n : Nat} : Shp n .none := ⟨by simp only [PyData.canLay0], by simp only [PyData.depth]; omega⟩
theorem Shp.ok {n : Nat} {d : PyData} (h : Shp n d) (hn : n ≤ 64 := by decide) : SeqAt.shaped d = true := by
  unfold SeqAt.shaped
  rw [h.1, decide_eq_true (Nat.le_trans h.2 hn)]
  rfl
theorem Shp.same {n : Nat} {d : PyData} (h : Shp n d) : PyData.eqv d d = true := SeqAt.eqv_refl d h.1
theorem shp_bls (l : List Bool) : Shp 1 (.tuple (l.map PyData.bool)) := shp_tup fun d hd => by
  obtain ⟨b, _, rfl⟩ := List.mem_map.mp hd
  exact shp_bl
/-! the rules with K apart (for blocks of comprehensions) -/
section
variable {X : Cx}
theorem kk_isi {K : PySem.W.Frag} (h : X.K = K := by rfl) : CallR X (.builtin "isinstance") (rIsi K) := h ▸ call_isi
theorem kk_in {K : PySem.W.Frag} (h : X.K = K := by rfl) : OpR X (compareOp .In) (rIn K false) := h ▸ op_in_seq
theorem kk_notin {K : PySem.W.Frag} (h : X.K = K := by rfl) : OpR X (compareOp .NotIn) (rIn K true) := h ▸ op_notIn_seq
theorem kk_ixL {K : PySem.W.Frag} (h : X.K = K := by rfl) : IxR X (rIxL K) := h ▸ ix_list
theorem kk_ixT {K : PySem.W.Frag} (h : X.K = K := by rfl) : IxR X (rIxT K) := h ▸ ix_tup
theorem kk_eqD {K : PySem.W.Frag} (hu : X.A.units + 64 < cLine) (h : X.K = K := by rfl) : OpR X (compareOp .Eq) (rEqD K) := h ▸ op_eqD hu
theorem kk_neD {K : PySem.W.Frag} (hu : X.A.units + 64 < cLine) (h : X.K = K := by rfl) : OpR X (compareOp .NotEq) (rNeD K) := h ▸ op_neD hu
end
/-! keyword-only defaults alone, some of them written -/
theorem kbinds0 {K : PySem.W.Frag} {x qual : Str} {params : Arguments} {body : List Stmt} {scope : Scope} {kws : List (Str × V)} {f : Addr} {fd : FuncData} {ps : List Str} (F : FunD K x qual params body scope [] kws f fd) (n : Nat) (ks : List Str) (ms : List (Str × V)) (g : {α : Type} → List α → List α → List α → List α) (hk : kws ≠ []) (hms : ∀ q ∈ ms, q ∈ kws)
    (hrel : ∀ {vs mz zs : List V} {us mv ws : List Value}, Vals vs us → Vals mz mv → Vals zs ws → Vals (g vs mz zs) (g us mv ws))
    (h : ∀ (D : Addr) (doc pm : Value) (an : Option Addr) (cdv ct : Value) (us mv ws : List Value), us.length = n → mv.length = ms.length → ws.length = ks.length →
      KwChain D ((ms.map (·.1)).zip mv) (bindArgs (PySem.W.fnOf x qual params body scope .none (.ref D) doc pm an cdv ct) ⟨us, ks.zip ws⟩) (ps.zip (g us mv ws))) :
    ∃ mv : List Value, KBn K fd ps n ks (fun us ws => g us mv ws) (fun vs zs => g vs (ms.map (·.2)) zs) := by
  obtain ⟨oc, od, dV, kV, doc, pm, an, cdv, ct, osl, rfl, lk, hcd, hD, hK⟩ := F.ex
  rcases hD with ⟨_, rfl⟩ | ⟨e, _⟩
  · rcases hK with e | ⟨D, rfl, hq⟩
    · exact absurd e hk
    · obtain ⟨mv, hl, rk, hks⟩ := kwd_vals (ms := ms) fun q hm => hq q (hms q hm)
      refine ⟨mv, ⟨fun s us ws X l1 l2 => ?_, fun r1 r2 => hrel r1 rk r2⟩⟩
      exact BindsTo.of_looks fun M => KwChain.looks X hks (h D doc pm an cdv ct us mv ws l1 hl l2)
  · exact absurd rfl e
theorem okD {P : Program} {w : World} {K : PySem.W.Frag} {mg : Str → Option Value} {base : Heap} {x qual : Str} {params : Arguments} {body : List Stmt} {scope : Scope} {dvs : List V} {kws : List (Str × V)} {f : Addr} {fd : FuncData} {N ps : List Str} {k : Nat} {sp : Sp} (F : FunD K x qual params body scope dvs kws f fd) (S : FnScope N ps scope) (len : ∀ vs H Q E, sp vs H Q E → vs.length = ps.length)
    (hbody : ∀ (cdv : Value) (A : Around) (outer : List Env) (s : Shared) (H : Hp) (vs : List V) (Q : VK) (E : XK), Room k (A.deeper (envOfC qual scope s.heap.objs.size f cdv)) → sp vs H Q E →
      ∃ t, PSs (cxOf CX0 P w K mg base N qual scope f cdv A outer s H E).nox body t ∧ t { nx := fun _ H' => Q .non H', rt := Q } (start N vs) H) : FnOk P w K mg base CX0 (k + 1) f fd ps sp :=
  F.ok S len fun cdv A outer s H vs Q E hr h => let ⟨t, h1, h2⟩ := hbody cdv A outer s H vs Q E hr h; ⟨t, h1.nox, h2⟩
section
open Evl
theorem q_par {i j : Nat} {ta : TA} {tz : TS} {D : Ends} {σ : L2.St} {H : Hp} {v w : V} (h : EvA ta σ H [v, w]) (k : ∀ H1, Ex H H1 → tz D ((σ.set i (some v)).set j (some w)) H1) : tSeq (tPar i j ta) tz D σ H :=
  h H (Ex.refl H) _ fun H1 e => ⟨v, w, rfl, k H1 e⟩
theorem q_par3 {i j l : Nat} {ta : TA} {tz : TS} {D : Ends} {σ : L2.St} {H : Hp} {v w u : V} (h : EvA ta σ H [v, w, u]) (k : ∀ H1, Ex H H1 → tz D (((σ.set i (some v)).set j (some w)).set l (some u)) H1) : tSeq (tPar3 i j l ta) tz D σ H :=
  h H (Ex.refl H) _ fun H1 e => ⟨v, w, u, rfl, k H1 e⟩
end
end Way

/-! own == with either answer; in, not in, == of tuples over it; own in, len, operators -/
namespace Way
open PySem PySem.Spec PyProof.Rows L2
open AutoSeq1 (wpAny_loadPart')
open MeetsSeq MeetsSeq2 MeetsSeq3 SeqRoads2
section
variable {prog : Program} {w : World} {A : Around} {R : Result → Shared → Prop}
def ListC (prog : Program) (w : World) (A : Around) (E : Value → Shared → Prop) (l : Addr) (x : Value) (N : Nat) (e : Nat → Bool) (I : Shared → Prop) : Prop :=
  ∀ s, I s → ∃ (items : Array Value) (n : Nat), s.heap.get? l = some { cls := .type "list", data := .seq items n } ∧ items.size = N ∧
    ∀ i (h1 : i < items.size), wpAny (model prog w) A.in1 (eqBool items[i] x) (fun r s' => r = e i ∧ I s') E s
theorem contains_loopB (l : Addr) (x : Value) (N : Nat) (e : Nat → Bool) (b : Bool) (I : Shared → Prop) (hl : ListC prog w A (fun e s' => R (.error e) s') l x N e I)
    (hb : b = (List.range N).any e) (fin : ∀ s, I s → R (.ok (.ret (.bool b))) s) (k : Nat) :
    ∀ i : Nat, N - i = k → i ≤ N → (∀ j < i, e j = false) → ∀ s, I s →
      wpAny (model prog w) A.in1 (Builtin.«list.__contains__.loop» ⟨[.ref l, x, rawInt i], []⟩) (GQ.FinOf prog w A R) (fun e s' => R (.error e) s') s := by
  induction k with
  | zero =>
    intro i hk hi hf s h
    obtain ⟨items, n, hl1, hs1, _⟩ := hl _ h
    have hi' : i = N := by omega
    have hb' : b = false := by
      rw [hb, List.any_eq_false]
      intro j hj
      rw [hf j (by rw [hi']; exact List.mem_range.mp hj)]
      exact Bool.false_ne_true
    have hR := fin s h
    rw [hb'] at hR
    obtain ⟨hp, g, d, tk, os⟩ := s
    wp_walk using wpAny_loadPart' hl1
    have hi1 : items[((i : Nat) : Int).toNat]? = none := by simp; omega
    rw [hi1]
    wp_walk
    exact hR
  | succ k ih =>
    intro i hk hi hf s h
    obtain ⟨items, n, hl1, hs1, turn⟩ := hl _ h
    have hlt : i < items.size := by omega
    have ht := turn i hlt
    obtain ⟨hp, g, d, tk, os⟩ := s
    wp_walk using wpAny_loadPart' hl1
    have hi1 : items[((i : Nat) : Int).toNat]? = some items[i] := by simp [hlt]
    have hc : ((i : Int) + 1) = ((i + 1 : Nat) : Int) := by omega
    rw [hi1]
    refine wpAny_bind (wpAny_mono ht (fun r s2 h2 => ?_) fun _ _ x => x)
    obtain ⟨hr, h2⟩ := h2
    subst hr
    cases hb' : e i with
    | true =>
      have hbt : b = true := by
        rw [hb, List.any_eq_true]
        exact ⟨i, List.mem_range.mpr (by omega), hb'⟩
      have hR := fin s2 h2
      rw [hbt] at hR
      obtain ⟨hp2, g2, d2, tk2, os2⟩ := s2
      wp_walk
      exact hR
    | false =>
      have hrec := ih (i + 1) (by omega) (by omega) (fun j hj => by
        rcases Nat.lt_or_ge j i with q | q
        · exact hf j q
        · have : j = i := by omega
          rw [this]; exact hb') s2 h2
      obtain ⟨hp2, g2, d2, tk2, os2⟩ := s2
      wp_walk
      rw [hc]
      exact ⟨plainId_quiet plain_contains_loop _, codeAny_builtin entry_contains_loop (by
        rw [Around.under_plainId plain_contains_loop _]
        exact hrec)⟩
theorem list_containsB (l : Addr) (x : Value) (N : Nat) (e : Nat → Bool) (b : Bool) (I : Shared → Prop) (hl : ListC prog w A (fun e s' => R (.error e) s') l x N e I)
    (hb : b = (List.range N).any e) (fin : ∀ s, I s → R (.ok (.ret (.bool b))) s) {s : Shared} (h : I s) :
    wpAny (model prog w) A.in1 (Builtin.«list.__contains__» ⟨[.ref l, x], []⟩) (GQ.FinOf prog w A R) (fun e s' => R (.error e) s') s := by
  obtain ⟨items, n, hl1, hs1, _⟩ := hl _ h
  have hrec := contains_loopB (A := A) (R := R) l x N e b I hl hb fin _ 0 rfl (Nat.zero_le _) (fun j hj => absurd hj (Nat.not_lt_zero _)) s h
  obtain ⟨hp, g, d, tk, os⟩ := s
  wp_walk using wpAny_loadPart' hl1
  exact ⟨plainId_quiet plain_contains_loop _, codeAny_builtin entry_contains_loop (by
    rw [Around.under_plainId plain_contains_loop _]
    exact hrec)⟩
theorem in_listB {E : Value → Shared → Prop} {l : Addr} {x : Value} {N : Nat} {e : Nat → Bool} {I : Shared → Prop} {Q : Value → Shared → Prop} (hl : ListC prog w A E l x N e I) {s : Shared} (h : I s)
    (fin : ∀ s, I s → Q (.bool ((List.range N).any e)) s) : wpAny (model prog w) A (compareOp .In x (.ref l)) Q E s := by
  obtain ⟨items, n, hl1, hs1, _⟩ := hl _ h
  have hT : s.TypeIs (.ref l) "list" := ⟨_, hl1, rfl⟩
  show wpAny _ A (do return .bool (← contains (.ref l) x)) Q E s
  refine wpAny_bind (wpAny_contains_slot hT F.slot_list_contains (wpAny_mono (GQ.call_here (Q := fun v s' => ∃ b, v = .bool b ∧ Q (.bool b) s') F.slot_list_contains hT F.entry_list_contains (F.args_list_contains_2 _ _) (list_containsB l x N e _ I hl rfl (fun s' hs' => ⟨_, rfl, fin s' hs'⟩) h)) (fun v s' hv => ?_) fun _ _ e => e))
  obtain ⟨b, rfl, hq⟩ := hv
  exact wpAny_truthy_bool (wpAny_pure hq)
theorem notIn_listB {E : Value → Shared → Prop} {l : Addr} {x : Value} {N : Nat} {e : Nat → Bool} {I : Shared → Prop} {Q : Value → Shared → Prop} (hl : ListC prog w A E l x N e I) {s : Shared} (h : I s)
    (fin : ∀ s, I s → Q (.bool (!(List.range N).any e)) s) : wpAny (model prog w) A (compareOp .NotIn x (.ref l)) Q E s := by
  obtain ⟨items, n, hl1, hs1, _⟩ := hl _ h
  have hT : s.TypeIs (.ref l) "list" := ⟨_, hl1, rfl⟩
  show wpAny _ A (do return .bool (!(← contains (.ref l) x))) Q E s
  refine wpAny_bind (wpAny_contains_slot hT F.slot_list_contains (wpAny_mono (GQ.call_here (Q := fun v s' => ∃ b, v = .bool b ∧ Q (.bool (!b)) s') F.slot_list_contains hT F.entry_list_contains (F.args_list_contains_2 _ _) (list_containsB l x N e _ I hl rfl (fun s' hs' => ⟨_, rfl, fin s' hs'⟩) h)) (fun v s' hv => ?_) fun _ _ e => e))
  obtain ⟨b, rfl, hq⟩ := hv
  exact wpAny_truthy_bool (wpAny_pure hq)
end
/-! == of two tuples, item by item, either answer -/
section
variable {prog : Program} {w : World} {A : Around} {R : Result → Shared → Prop}
theorem tuple_eqB (l b : Addr) (items items2 : Array Value) (n n2 : Nat) (dd dd2 : Option Addr) (sl sl2 : Array (Option Value)) (e : Nat → Bool) (I : Shared → Prop)
    (turn : ∀ i (h1 : i < items.size) (h2 : i < items2.size) s, I s → wpAny (model prog w) A.in1 (eqBool items[i] items2[i]) (fun r s' => r = e i ∧ I s') (fun e s' => R (.error e) s') s)
    (fin : ∀ s, I s → R (.ok (.ret (.bool ((List.range (min items.size items2.size)).all e && items.size == items2.size)))) s) {s : Shared} (hl1 : s.heap.get? l = some { cls := .type "tuple", dict := dd, data := .seq items n, slots := sl }) (hb1 : s.heap.get? b = some { cls := .type "tuple", dict := dd2, data := .seq items2 n2, slots := sl2 }) (h : I s) :
    wpAny (model prog w) A.in1 (Builtin.«tuple.__eq__» ⟨[.ref l, .ref b], []⟩) (GQ.FinOf prog w A R) (fun e s' => R (.error e) s') s := by
  have f2 := AutoSeq1.sub_tuple_tuple
  have hZ : (items.toList.zip items2.toList).length = min items.size items2.size := by simp
  have h0 := h
  obtain ⟨hp, g, d, tk, os⟩ := s
  wp_walk using wpAny_loadPart' hl1, wpAny_loadPart' hb1, wpAny_forIn_list _ (fun rest b s' => b.1 = none ∧ ∃ i, rest = (items.toList.zip items2.toList).drop i ∧ i ≤ min items.size items2.size ∧ (∀ j < i, e j = true) ∧ I s') _
  case turn =>
    rintro ⟨y, x⟩ rest b s' ⟨hb', i, hz, hi, hf, hI⟩
    have hlt : i < (items.toList.zip items2.toList).length := by
      rcases Nat.lt_or_ge i (items.toList.zip items2.toList).length with h' | h'
      · exact h'
      · rw [List.drop_of_length_le h'] at hz; cases hz
    have h1 : i < items.size := by omega
    have h2 : i < items2.size := by omega
    rw [List.drop_eq_getElem_cons hlt] at hz
    injection hz with hyx hrest
    have hy : y = items[i] := by have := congrArg Prod.fst hyx; simpa using this
    have hx : x = items2[i] := by have := congrArg Prod.snd hyx; simpa using this
    subst hy hx
    refine wpAny_bind (wpAny_mono (turn i h1 h2 s' hI) (fun r s2 q2 => ?_) fun _ _ x => x)
    obtain ⟨hr, q2⟩ := q2
    subst hr
    cases hq : e i with
    | true =>
      wp_walk
      refine ⟨rfl, i + 1, hrest, by omega, fun j hj => ?_, q2⟩
      rcases Nat.lt_or_ge j i with q | q
      · exact hf j q
      · have : j = i := by omega
        rw [this]; exact hq
    | false =>
      have hR := fin s2 q2
      have hn : (List.range (min items.size items2.size)).all e = false := by
        rw [List.all_eq_false]
        exact ⟨i, List.mem_range.mpr (by omega), by rw [hq]; exact Bool.false_ne_true⟩
      rw [hn] at hR
      wp_walk
      simpa using hR
  case fin =>
    rintro ⟨b1, b2⟩ s' ⟨hb', i, hz, hi, hf, hI⟩
    simp only at hb'
    subst hb'
    have hge : min items.size items2.size ≤ i := by
      rcases Nat.lt_or_ge i (items.toList.zip items2.toList).length with h' | h'
      · rw [List.drop_eq_getElem_cons h'] at hz; cases hz
      · exact hZ ▸ h'
    have hR := fin s' hI
    have hn : (List.range (min items.size items2.size)).all e = true := by
      rw [List.all_eq_true]
      exact fun j hj => hf j (by have := List.mem_range.mp hj; omega)
    rw [hn] at hR
    wp_walk
    simpa [Builtin.Tuple.tupleCompareSizes] using hR
  case h =>
    exact ⟨rfl, 0, rfl, Nat.zero_le _, fun j hj => absurd hj (Nat.not_lt_zero _), h0⟩
theorem rc_tupB {E : Value → Shared → Prop} {l b : Addr} {items items2 : Array Value} {e : Nat → Bool} {Q : Value → Shared → Prop} (hu : A.units < cLine) (I : Shared → Prop) {s : Shared}
    (hl : s.heap.IsTuple l items) (hb : s.heap.IsTuple b items2)
    (turn : ∀ i (h1 : i < items.size) (h2 : i < items2.size) s, I s → wpAny (model prog w) A.in1 (eqBool items[i] items2[i]) (fun r s' => r = e i ∧ I s') E s)
    (fin : ∀ s, I s → Q (.bool ((List.range (min items.size items2.size)).all e && items.size == items2.size)) s) (h : I s) : wpAny (model prog w) A (richCompare .Eq (.ref l) (.ref b)) Q E s := by
  obtain ⟨⟨cls, dd, data, sl⟩, ho, hc, n, hd⟩ := id hl
  obtain ⟨⟨cls2, dd2, data2, sl2⟩, ho2, hc2, n2, hd2⟩ := id hb
  simp only at hc hd hc2 hd2
  subst hc hd hc2 hd2
  refine wpAny_richCompare_same_room (op := .Eq) ⟨_, ho, rfl⟩ ⟨_, ho2, rfl⟩ F.slot_tuple_eq (GQ.call_here F.slot_tuple_eq ⟨_, ho, rfl⟩ F.entry_tuple_eq (F.args_tuple_eq_2 _ _) ?_) hu
  exact tuple_eqB (R := wants (fun v s' => v ≠ .notImplemented ∧ Q v s') E) l b items items2 n n2 dd dd2 sl sl2 e I turn (fun s' q => ⟨(fun x => nomatch x), fin s' q⟩) ho ho2 h
end

/-! the answers of == as a relation -/
abbrev EqvB := V → V → Hp → Bool → Prop
def MonB (D : EqvB) : Prop := ∀ x y H H' b, Ext H H' → D x y H b → D x y H' b
def EqB (X : Cx) (n : Nat) (D : EqvB) : Prop :=
  ∀ (A : Around) (pins : List (Addr × Obj)) (s : Shared) (σ : L2.St) (H : Hp) (x y : V) (u v : Value) (b : Bool), Sub X n A → Inv X pins σ H s → RelV x u → RelV y v → D x y H b →
    wpAny (model X.prog X.w) A (eqBool u v) (fun r s' => r = b ∧ LoopI X pins σ H s') X.xe s
def RcB (X : Cx) (n : Nat) (D : EqvB) : Prop :=
  ∀ (A : Around) (pins : List (Addr × Obj)) (s : Shared) (σ : L2.St) (H : Hp) (x y : V) (u v : Value) (b : Bool), Sub X n A → Inv X pins σ H s → RelV x u → RelV y v → D x y H b →
    wpAny (model X.prog X.w) A (richCompare .Eq u v) (fun r s' => r = .bool b ∧ LoopI X pins σ H s') X.xe s
/-- an own ==: the promise -/
def spEqB (R : Addr → V → Hp → Bool → Prop) : Sp := fun vs H Q _ => ∃ a y b, vs = [.ref a, y] ∧ R a y H b ∧ ∀ H', Ext H H' → Q (.bl b) H'
/-- x an instance of C, y a value of a type that does not go first -/
def DOwn (K : PySem.W.Frag) (C : Addr) (R : Addr → V → Hp → Bool → Prop) : EqvB := fun x y H b => ∃ a dx fs t, x = .ref a ∧ H a = some (.ins C dx fs) ∧ TyX K H y t ∧ PySem.W.notFirst K C t = true ∧ R a y H b
section
variable {X : Cx} {n m : Nat} {D : EqvB}
theorem EqB.mono (h : EqB X n D) (hn : n ≤ m) : EqB X m D := fun A pins s σ H x y u v b sb => h A pins s σ H x y u v b (sb.mono hn)
theorem RcB.mono (h : RcB X n D) (hn : n ≤ m) : RcB X m D := fun A pins s σ H x y u v b sb => h A pins s σ H x y u v b (sb.mono hn)
/-- a call of a def within a builtin -/
theorem own_call {CX : CXT} {f : Addr} {fd : FuncData} {ps : List Str} {sp : Sp} {E : XK} {A : Around} {pins : List (Addr × Obj)} {s : Shared} {σ : L2.St} {H : Hp} {vs : List V} {us : List Value} {Q : VK} (F : FnOk X.prog X.w X.K X.mg X.base CX n f fd ps sp) (hb : Binds X.K fd ps []) (hx : Passes CX X E)
    (sb : Sub X n A) (I : Inv X pins σ H s) (r2 : Vals vs us) (hsp : sp vs H Q E) : wpAny (model X.prog X.w) A (call (.ref f) us) (EP X pins σ Q) X.xe s := by
  have e0 : Env0 X.prog X.w X.K X.mg X.base A X.stack s H := by
    have e := I.env0
    exact ⟨by rw [sb.fr]; exact e.frames, e.mod, e.bs, e.bsz, e.funs, e.frf, e.hok, e.bare⟩
  have hl := F.len _ _ _ _ hsp
  refine wpAny_call (codeAny_mono (F.run A X.stack s H ⟨us, []⟩ us vs _ E sb.room e0 (by
    have := hb s us I.kIn (by simpa [← r2.length] using hl)
    simpa using this) r2 hsp) fun r s' hq => ?_)
  cases r with
  | error e => exact hx pins σ H s e s' I hq
  | ok fl =>
    cases fl with
    | ret w => exact I.after hq
    | next => exact False.elim hq
    | brk => exact False.elim hq
    | cont => exact False.elim hq
theorem rcB_own {CX : CXT} {C f : Addr} {fd : FuncData} {ps : List Str} {R : Addr → V → Hp → Bool → Prop} {E : XK} (F : FnOk X.prog X.w X.K X.mg X.base CX n f fd ps (spEqB R))
    (hs : PySem.W.findIn X.K (.ref C) "__eq__" = some (some (.ref f))) (hf : PySem.W.isFn X.K (.ref f) = true) (hb : Binds X.K fd ps []) (hx : Passes CX X E) : RcB X n (DOwn X.K C R) := by
  intro A pins s σ H x y u v b sb I rx ry d
  obtain ⟨a, dx, fs, t, rfl, ha, ty, hn, hr⟩ := d
  cases rx
  obtain ⟨mA, J, _⟩ := ins_get I.hok ha
  obtain ⟨od, J, _⟩ := J.look
  obtain ⟨m, hF⟩ := I.fr
  obtain ⟨P, Z, p, hx'⟩ := kit_of I ry ty
  refine PySem.W.cmp_K (op := .Eq) (tb := t) sb.room.units0 hF I.ok.mod.kin J (Z.ty _ _ I.kIn p) hn hs hf ?_
  refine wpAny_mono (own_call (vs := [.ref a, y]) (Q := fun v H' => v = .bl b ∧ Ext H H') F hb hx sb I (.cons rfl (.cons ry .nil)) ⟨a, y, b, rfl, hr, fun H' e => ⟨rfl, e⟩⟩) (fun r s' hq => ?_) fun _ _ x => x
  obtain ⟨z, H', I', rz, ez, ex⟩ := hq
  subst ez
  cases rz
  exact ⟨rfl, H', I', ex⟩
/-- == inside a builtin: an object is equal to itself -/
theorem RcB.eqB (h : RcB X n D) (hr : ∀ x y H b, D x y H b → ∃ a c, x = .ref a ∧ y = .ref c ∧ (a = c → b = true)) : EqB X n D := by
  intro A pins s σ H x y u v b sb I rx ry d
  obtain ⟨a, c, rfl, rfl, hid⟩ := hr _ _ _ _ d
  cases rx
  cases ry
  by_cases hab : a = c
  · subst hab
    exact SeqAt.EqAt.same (A := A) (s := s) (.ref a) X.prog X.w X.xe _ ⟨(hid rfl).symm, H, I, Ext.rfl'⟩
  · refine GQ.eqBool_refG hab (wpAny_mono (h A pins s σ H (.ref a) (.ref c) _ _ b sb I rfl rfl d) (fun r s' q => ?_) fun _ _ x => x)
    obtain ⟨hr', q⟩ := q
    exact ⟨b, hr', rfl, q⟩
/-- x == y -/
def rEqB (D : EqvB) : R2 := fun x y H Q => ∃ b, D x y H b ∧ ∀ H', Ext H H' → Q (.bl b) H'
theorem op_eqB (h : RcB X n D) (hr : Room n X.A) : OpR X (compareOp .Eq) (rEqB D) := by
  intro pins s σ H x y v u Q I rx ry hq
  obtain ⟨b, d, q⟩ := hq
  show wpAny (model X.prog X.w) X.A (richCompare .Eq v u) (EP X pins σ Q) X.xe s
  refine wpAny_mono (h X.A pins s σ H x y v u b ⟨hr, rfl⟩ I rx ry d) (fun r s' z => ?_) fun _ _ x => x
  obtain ⟨hr', H', I', e⟩ := z
  subst hr'
  exact ⟨.bl b, H', I', rfl, q H' e⟩
/-- the answers item by item -/
def AllB (D : EqvB) (e : Nat → Bool) (xs ys : List V) (H : Hp) : Prop := ∀ (i : Nat) x y, xs[i]? = some x → ys[i]? = some y → D x y H (e i)
def DTupB (K : PySem.W.Frag) (D : EqvB) : EqvB := fun x y H b => ∃ p q xs ys e, x = .ref p ∧ y = .ref q ∧ SqT K H p xs ∧ SqT K H q ys ∧ AllB D e xs ys H ∧ b = ((List.range (min xs.length ys.length)).all e && xs.length == ys.length)
theorem arr_at {xs : List V} {its : List Value} (r : Vals xs its) {i : Nat} (h1 : i < its.toArray.size) : ∃ x, xs[i]? = some x ∧ RelV x its.toArray[i] := by
  have g1 : its[i]? = some its.toArray[i] := by
    have h1' : i < its.length := by simpa using h1
    rw [List.getElem?_eq_getElem h1'] <;> simp
  have k1 : i < xs.length := by rw [r.length]; simpa using h1
  obtain ⟨u, hu, ru⟩ := r.get (List.getElem?_eq_getElem k1)
  rw [g1] at hu
  exact ⟨_, List.getElem?_eq_getElem k1, Option.some.inj hu ▸ ru⟩
theorem rcB_tup (hD : MonB D) (h : EqB X n D) : RcB X (n + 1) (DTupB X.K D) := by
  intro A pins s σ H x y u v b sb I rx ry d
  obtain ⟨p, q, xs, ys, e, rfl, rfl, hp, hq, ha, rfl⟩ := d
  cases rx
  cases ry
  obtain ⟨its, r, t1, z⟩ := I.tuple hp
  obtain ⟨its2, r2, t2, z2⟩ := I.tuple hq
  refine rc_tupB (e := e) sb.room.units0 (fun s' => LoopI X pins σ H s') t1 t2 (fun i h1 h2 s' q => ?_) (fun s' q => ?_) ⟨H, I, Ext.rfl'⟩
  · obtain ⟨H1, I1, e1⟩ := q
    obtain ⟨a, ga, ra⟩ := arr_at r h1
    obtain ⟨c, gc, rc⟩ := arr_at r2 h2
    refine wpAny_mono (h A.in1 pins s' σ H1 a c _ _ (e i) sb.in1 I1 ra rc (hD _ _ _ _ _ e1 (ha i a c ga gc))) (fun r s2 q => ?_) fun _ _ x => x
    obtain ⟨hr, H2, I2, e2⟩ := q
    exact ⟨hr, H2, I2, e1.trans e2⟩
  · refine ⟨?_, q⟩
    rw [List.size_toArray, List.size_toArray, ← r.length, ← r2.length]
/-- x in a list, by == -/
def rInB (D : EqvB) (neg : Bool) : R2 := fun x y H Q => ∃ p ys e, y = .ref p ∧ H p = some (.lst ys) ∧ (∀ (i : Nat) z, ys[i]? = some z → D z x H (e i)) ∧ ∀ H', Ext H H' → Q (.bl (if neg then !(List.range ys.length).any e else (List.range ys.length).any e)) H'
theorem list_C (hD : MonB D) (h : EqB X n D) {A : Around} (sb : Sub X (n + 1) A) {pins : List (Addr × Obj)} {σ : L2.St} {H : Hp} {p : Addr} {x : V} {v : Value} {ys : List V} {e : Nat → Bool} (rx : RelV x v) (hp : H p = some (.lst ys)) (he : ∀ (i : Nat) z, ys[i]? = some z → D z x H (e i)) :
    ListC X.prog X.w A X.xe p v ys.length e (fun s' => LoopI X pins σ H s') := by
  intro s' q
  obtain ⟨H1, I1, e1⟩ := id q
  obtain ⟨z, its, k, r, g⟩ := I1.hok p _ (e1 _ _ hp)
  refine ⟨its.toArray, k, g, by rw [List.size_toArray, ← r.length], fun i h1 => ?_⟩
  obtain ⟨a, ga, ra⟩ := arr_at r h1
  refine wpAny_mono (h A.in1 pins s' σ H1 a x _ _ (e i) sb.in1 I1 ra rx (hD _ _ _ _ _ e1 (he i a ga))) (fun r s2 q => ?_) fun _ _ x => x
  obtain ⟨hr, H2, I2, e2⟩ := q
  exact ⟨hr, H2, I2, e1.trans e2⟩
theorem op_inB (hD : MonB D) (h : EqB X n D) (hr : Room (n + 1) X.A) : OpR X (compareOp .In) (rInB D false) := by
  intro pins s σ H x y v u Q I rx ry hq
  obtain ⟨p, ys, e, rfl, hp, he, q⟩ := hq
  cases ry
  exact in_listB (list_C hD h ⟨hr, rfl⟩ rx hp he) ⟨H, I, Ext.rfl'⟩ fun s' ⟨H1, I1, e1⟩ => ⟨.bl ((List.range ys.length).any e), H1, I1, rfl, q H1 e1⟩
theorem op_notInB (hD : MonB D) (h : EqB X n D) (hr : Room (n + 1) X.A) : OpR X (compareOp .NotIn) (rInB D true) := by
  intro pins s σ H x y v u Q I rx ry hq
  obtain ⟨p, ys, e, rfl, hp, he, q⟩ := hq
  cases ry
  exact notIn_listB (list_C hD h ⟨hr, rfl⟩ rx hp he) ⟨H, I, Ext.rfl'⟩ fun s' ⟨H1, I1, e1⟩ => ⟨.bl (!(List.range ys.length).any e), H1, I1, rfl, q H1 e1⟩
end
end Way

/-! own !=, in, len, operators of two of one class -/
namespace Way
open PySem PySem.Spec PyProof.Rows L2
section
variable {M : Model} {prog : Program} {w : World} {A : Around} {E : Value → Shared → Prop} {s : Shared} {K : PySem.W.Frag} {x C f : Addr} {ox : Obj} {od : Option Obj} {b tb : Value}
theorem objNe_K {Q : PySem.Fin → Shared → Prop} (hu : A.units < cLine) (X : K.In s.heap) (I : PySem.W.InstAt s.heap x ox C od) (hs : PySem.W.findIn K (.ref C) "__eq__" = some (some (.ref f))) (hf : PySem.W.isFn K (.ref f) = true)
    (hcall : wpAny (model prog w) A (call (.ref f) [.ref x, b]) (fun v s' => ∃ c, v = .bool c ∧ Q (.done (.ret (.bool (!c)))) s') E s) :
    wpAny (model prog w) A (Builtin.«object.__ne__» ⟨[.ref x, b], []⟩) Q E s := by
  unfold Builtin.«object.__ne__»
  repeat (first
    | with_reducible refine wpAny_cRoomFor hu ?_
    | (refine wpAny_bind (m := callSpecialIfBound? (.ref x) (Str.ofString "__eq__") [b])
        (PySem.W.ifBound_K X I hs hf (wpAny_mono hcall (fun r s' hr => by
          obtain ⟨b, rfl, hq⟩ := hr
          repeat (first | exact hq | exact wpAny_pure hq | exact wpAny_truthy_bool hq | (refine wpAny_bind (m := truthy (.bool _)) (wpAny_truthy_bool ?_)) | wp_step)) fun _ _ e => e)))
    | wp_step)
theorem call_objNe {Q : Value → Shared → Prop} (hu : A.in1.units < cLine) (X : K.In s.heap) (I : PySem.W.InstAt s.heap x ox C od) (hm : PySem.W.mroIn K C (.type "object") = some true) (hs : PySem.W.findIn K (.ref C) "__eq__" = some (some (.ref f))) (hf : PySem.W.isFn K (.ref f) = true)
    (hcall : wpAny (model prog w) A.in1 (call (.ref f) [.ref x, b]) (fun v s' => ∃ c, v = .bool c ∧ Q (.bool (!c)) s') E s) :
    wpAny (model prog w) A (call (.builtin "object.__ne__") [.ref x, b]) Q E s :=
  wpAny_call (codeAny_call_builtin F.cmp_object.ne.plain F.cmpEntry_ne (PySem.W.check_slot F.cmpKind_ne F.cmpSplit_ne (I.type.andThen (PySem.W.looks_mroIn X hm)) (F.cmpArgs_ne _ _) (objNe_K hu X I hs hf hcall)))
theorem ifBound_objNe {args : List Value} {Q : Option Value → Shared → Prop} (X : K.In s.heap) (I : PySem.W.InstAt s.heap x ox C od) (hs : PySem.W.findIn K (.ref C) "__ne__" = some (some (.builtin "object.__ne__")))
    (h : wpAny M A (call (.builtin "object.__ne__") (.ref x :: args)) (fun v => Q (some v)) E s) : wpAny M A (callSpecialIfBound? (.ref x) "__ne__" args) Q E s := by
  simp only [callSpecialIfBound?, bindSpecialIfBound?]
  refine wpAny_holding (wpAny_bind (wpAny_bind (wpAny_bind (I.type.here ((PySem.W.looks_findIn X hs).here ?_)))))
  refine wpAny_bind (wpAny_askSetting (wpAny_ite ?_))
  have fin : wpAny M A (call (.builtin "object.__ne__") ([.ref x] ++ args) >>= fun v => pure (some v)) Q E s := wpAny_bind (wpAny_mono h (fun v s' h' => wpAny_pure h') fun _ _ h' => h')
  split
  · exact wpAny_bind (wpAny_of_eq (F.cmp_object.ne.bind _) (wpAny_pure (by exact fin)))
  · exact wpAny_tryCatch (wpAny_bind (wpAny_of_eq (F.cmp_object.ne.bind _) (wpAny_pure (by exact fin))))
theorem rc_neK {Q : Value → Shared → Prop} (hu : A.units < cLine) (hu1 : A.in1.units < cLine) (X : K.In s.heap) (I : PySem.W.InstAt s.heap x ox C od) (hm : PySem.W.mroIn K C (.type "object") = some true) (hb : PySem.W.Looks (model prog w) s.heap (typeOf b) tb) (hn : PySem.W.notFirst K C tb = true)
    (hs : PySem.W.findIn K (.ref C) "__eq__" = some (some (.ref f))) (hne : PySem.W.findIn K (.ref C) "__ne__" = some (some (.builtin "object.__ne__"))) (hf : PySem.W.isFn K (.ref f) = true)
    (h : wpAny (model prog w) A.in1 (call (.ref f) [.ref x, b]) (fun v s' => ∃ c, v = .bool c ∧ Q (.bool (!c)) s') E s) : wpAny (model prog w) A (richCompare .NotEq (.ref x) b) Q E s := by
  have one : wpAny (model prog w) A (tryCompare (.ref x) "__ne__" b) (fun r s' => ∃ v, r = some v ∧ Q v s') E s := by
    unfold tryCompare
    refine wpAny_bind (ifBound_objNe X I hne (call_objNe hu1 X I hm hs hf (wpAny_mono h (fun v s' hv => ?_) fun _ _ e => e)))
    obtain ⟨c, rfl, hq⟩ := hv
    exact ⟨c, rfl, wpAny_pure ⟨_, rfl, hq⟩⟩
  unfold richCompare
  simp only [oneThing_ref, cmpInfo_NotEq]
  refine wpAny_holding (wpAny_bind (wpAny_cRoomFor hu ?_))
  refine wpAny_bind (I.type.here (wpAny_bind (hb.here ?_)))
  split
  · rename_i q
    have e : PySem.W.subIn K tb (.ref C) = some false := by
      rcases Bool.or_eq_true_iff.mp hn with e | e
      · rw [beq_iff_eq.mp e] at q; simp at q
      · exact beq_iff_eq.mp e
    refine wpAny_bind ((PySem.W.looks_subIn X e).here ?_)
    simp only [Bool.false_eq_true, if_false]
    refine wpAny_bind (wpAny_mono one (fun r s' z => ?_) fun _ _ e => e)
    obtain ⟨v, rfl, hq⟩ := z
    exact wpAny_pure hq
  · refine wpAny_bind (wpAny_pure ?_)
    simp only [Bool.false_eq_true, if_false]
    refine wpAny_bind (wpAny_mono one (fun r s' z => ?_) fun _ _ e => e)
    obtain ⟨v, rfl, hq⟩ := z
    exact wpAny_pure hq
end
section
variable {X : Cx} {n : Nat} {CX : CXT} {C f : Addr} {fd : FuncData} {ps : List Str} {sp : Sp} {E : XK}
/-- x != y, by the own == of x's class -/
def rNeB (D : EqvB) : R2 := fun x y H Q => ∃ b, D x y H b ∧ ∀ H', Ext H H' → Q (.bl (!b)) H'
theorem op_neB {R : Addr → V → Hp → Bool → Prop} (F : FnOk X.prog X.w X.K X.mg X.base CX n f fd ps (spEqB R)) (hm : PySem.W.mroIn X.K C (.type "object") = some true)
    (hs : PySem.W.findIn X.K (.ref C) "__eq__" = some (some (.ref f))) (hne : PySem.W.findIn X.K (.ref C) "__ne__" = some (some (.builtin "object.__ne__"))) (hf : PySem.W.isFn X.K (.ref f) = true) (hb : Binds X.K fd ps []) (hx : Passes CX X E) (hr : Room (n + 1) X.A) :
    OpR X (compareOp .NotEq) (rNeB (DOwn X.K C R)) := by
  intro pins s σ H x y v u Q I rx ry hq
  obtain ⟨b, ⟨a, dx, fs, t, rfl, ha, ty, hn, hR⟩, q⟩ := hq
  cases rx
  obtain ⟨mA, J, _⟩ := ins_get I.hok ha
  obtain ⟨od, J, _⟩ := J.look
  obtain ⟨P, Z, p, hx'⟩ := kit_of I ry ty
  show wpAny (model X.prog X.w) X.A (richCompare .NotEq (.ref a) u) (EP X pins σ Q) X.xe s
  have sb : Sub X (n + 1) X.A := ⟨hr, rfl⟩
  refine rc_neK hr.units0 hr.in1.units0 I.kIn J hm (Z.ty _ _ I.kIn p) hn hs hne hf ?_
  refine wpAny_mono (own_call (vs := [.ref a, y]) (Q := fun v H' => v = .bl b ∧ Ext H H') F hb hx sb.in1 I (.cons rfl (.cons ry .nil)) ⟨a, y, b, rfl, hR, fun H' e => ⟨rfl, e⟩⟩) (fun r s' hq => ?_) fun _ _ x => x
  obtain ⟨z, H', I', rz, ez, ex⟩ := hq
  subst ez
  cases rz
  exact ⟨b, rfl, .bl (!b), H', I', rfl, q H' ex⟩
/-- x in o, o of a class with its own __contains__ -/
def rInO (C : Addr) (sp : Sp) (E : XK) (neg : Bool) : R2 := fun x y H Q => ∃ a dx fs, y = .ref a ∧ H a = some (.ins C dx fs) ∧ sp [.ref a, x] H (fun v H' => ∃ b, v = .bl b ∧ Q (.bl (if neg then !b else b)) H') E
theorem op_inO (F : FnOk X.prog X.w X.K X.mg X.base CX n f fd ps sp) (hs : PySem.W.findIn X.K (.ref C) "__contains__" = some (some (.ref f))) (hf : PySem.W.isFn X.K (.ref f) = true) (hb : Binds X.K fd ps []) (hx : Passes CX X E) (hr : Room n X.A) :
    OpR X (compareOp .In) (rInO C sp E false) := by
  intro pins s σ H x y v u Q I rx ry hq
  obtain ⟨a, dx, fs, rfl, ha, q⟩ := hq
  cases ry
  obtain ⟨mA, J, _⟩ := ins_get I.hok ha
  obtain ⟨od, J, _⟩ := J.look
  obtain ⟨m, hF⟩ := I.fr
  refine PySem.W.in_K hF I.ok.mod.kin J hs hf (wpAny_mono (own_call (vs := [.ref a, x]) F hb hx ⟨hr, rfl⟩ I (.cons rfl (.cons rx .nil)) q) (fun r s' hq => ?_) fun _ _ x => x)
  obtain ⟨z, H', I', rz, b, ez, q⟩ := hq
  subst ez
  cases rz
  exact wpAny_truthy_bool ⟨.bl b, H', I', rfl, q⟩
theorem op_notInO (F : FnOk X.prog X.w X.K X.mg X.base CX n f fd ps sp) (hs : PySem.W.findIn X.K (.ref C) "__contains__" = some (some (.ref f))) (hf : PySem.W.isFn X.K (.ref f) = true) (hb : Binds X.K fd ps []) (hx : Passes CX X E) (hr : Room n X.A) :
    OpR X (compareOp .NotIn) (rInO C sp E true) := by
  intro pins s σ H x y v u Q I rx ry hq
  obtain ⟨a, dx, fs, rfl, ha, q⟩ := hq
  cases ry
  obtain ⟨mA, J, _⟩ := ins_get I.hok ha
  obtain ⟨od, J, _⟩ := J.look
  obtain ⟨m, hF⟩ := I.fr
  refine PySem.W.notIn_K hF I.ok.mod.kin J hs hf (wpAny_mono (own_call (vs := [.ref a, x]) F hb hx ⟨hr, rfl⟩ I (.cons rfl (.cons rx .nil)) q) (fun r s' hq => ?_) fun _ _ x => x)
  obtain ⟨z, H', I', rz, b, ez, q⟩ := hq
  subst ez
  cases rz
  exact wpAny_truthy_bool ⟨.bl (!b), H', I', rfl, q⟩
/-- len(o) by an own __len__ -/
def rLenO (C : Addr) (sp : Sp) (E : XK) : List V → Hp → VK → Prop := fun xs H Q => ∃ a dx fs, xs = [.ref a] ∧ H a = some (.ins C dx fs) ∧ sp [.ref a] H (fun v H' => ∃ i, v = .int i ∧ (0 ≤ i ∧ i < 2 ^ 63) ∧ Q (.int i) H') E
theorem call_lenO (F : FnOk X.prog X.w X.K X.mg X.base CX n f fd ps sp) (hs : PySem.W.findIn X.K (.ref C) "__len__" = some (some (.ref f))) (hf : PySem.W.isFn X.K (.ref f) = true) (hb : Binds X.K fd ps []) (hx : Passes CX X E) (hr : Room (n + 1) X.A) :
    CallR X (.builtin "len") (rLenO C sp E) := by
  intro pins s σ H xs us Q I r hq
  obtain ⟨a, dx, fs, rfl, ha, q⟩ := hq
  obtain ⟨u, rfl, rx⟩ := vals1 r
  cases rx
  obtain ⟨mA, J, _⟩ := ins_get I.hok ha
  obtain ⟨od, J, _⟩ := J.look
  obtain ⟨m, hF⟩ := I.fr
  have sb : Sub X (n + 1) X.A := ⟨hr, rfl⟩
  refine PySem.W.len_K hF I.ok.mod.kin J hs hf (wpAny_mono (own_call (vs := [.ref a]) F hb hx sb.in1 I (.cons rfl .nil) q) (fun r s' hq => ?_) fun _ _ x => x)
  obtain ⟨z, H', I', rz, i, ez, hi, q⟩ := hq
  subst ez
  obtain ⟨t, rfl⟩ := rz
  exact ⟨hi, .int i, H', I'.tok _, ⟨_, rfl⟩, q⟩
/-- a | b, a & b of two instances of one class -/
def rBinO (C : Addr) (sp : Sp) (E : XK) : R2 := fun x y H Q => ∃ a c dx dy fs gs, x = .ref a ∧ y = .ref c ∧ H a = some (.ins C dx fs) ∧ H c = some (.ins C dy gs) ∧ sp [.ref a, .ref c] H Q E
theorem op_binO {op : Operator} (F : FnOk X.prog X.w X.K X.mg X.base CX n f fd ps sp) (hc : PySem.W.selfFirst X.K C = true) (hs : PySem.W.findIn X.K (.ref C) (PySem.dunder op.info.2) = some (some (.ref f))) (hf : PySem.W.isFn X.K (.ref f) = true) (hb : Binds X.K fd ps []) (hx : Passes CX X E) (hr : Room n X.A) :
    OpR X (binaryOp op) (rBinO C sp E) := by
  intro pins s σ H x y v u Q I rx ry hq
  obtain ⟨a, c, dx, dy, fs, gs, rfl, rfl, ha, hc', q⟩ := hq
  cases rx
  cases ry
  obtain ⟨mA, J, _⟩ := ins_get I.hok ha
  obtain ⟨od, J, _⟩ := J.look
  obtain ⟨mB, J2, _⟩ := ins_get I.hok hc'
  obtain ⟨od2, J2, _⟩ := J2.look
  obtain ⟨m, hF⟩ := I.fr
  refine PySem.W.binop_K hF I.ok.mod.kin J J2.type hc hs hf (wpAny_mono (own_call (vs := [.ref a, .ref c]) F hb hx ⟨hr, rfl⟩ I (.cons rfl (.cons rfl .nil)) q) (fun r s' hq => ?_) fun _ _ x => x)
  obtain ⟨z, H', I', rz, q⟩ := hq
  have ok : EP X pins σ Q r s' := ⟨z, H', I', rz, q⟩
  cases r with
  | notImplemented => cases z <;> first | (obtain ⟨t, ht⟩ := rz; cases ht) | cases rz
  | _ => exact ok
end
end Way

/-! defs that show data (repr): what is known is that no showing is under way around the call -/
namespace Way
open PySem PySem.Spec PyProof.Rows L2
structure FnG (P : Program) (w : World) (K : PySem.W.Frag) (mg : Str → Option Value) (base : Heap) (CX : CXT) (k : Nat) (f : Addr) (fd : FuncData) (ps : List Str) (sp : Sp) : Prop where
  len : ∀ vs H Q E, sp vs H Q E → vs.length = ps.length
  run : ∀ (A : Around) (outer : List Env) (s : Shared) (H : Hp) (args : Args) (us : List Value) (vs : List V) (Q : VK) (E : XK), A.guards = some [] → Room k A → Env0 P w K mg base A outer s H → BindsTo s fd args (ps.zip us) → Vals vs us → sp vs H Q E →
    codeAny (model P w) A (.call (.ref f) args) (CR CX outer P w H s Q E) s
theorem fnG_of {CX : CXT} {P : Program} {w : World} {K : PySem.W.Frag} {mg : Str → Option Value} {base : Heap} {k : Nat} {f : Addr} {name qual : Str} {params : Arguments} {body : List Stmt} {scope : Scope} {dV kV doc pm cdv ct oc : Value} {an od : Option Addr}
    {osl : Array (Option Value)} {N ps : List Str} {sp : Sp} (lk : K.lookup f = some ⟨oc, od, .func (PySem.W.fnOf name qual params body scope dV kV doc pm an cdv ct), osl⟩) (hcd : PySem.W.codeIn K cdv qual = true) (S : FnScope N ps scope)
    (len : ∀ vs H Q E, sp vs H Q E → vs.length = ps.length)
    (hbody : ∀ (A : Around) (outer : List Env) (s : Shared) (H : Hp) (vs : List V) (Q : VK) (E : XK), A.guards = some [] → Room k (A.deeper (envOfC qual scope s.heap.objs.size f cdv)) → sp vs H Q E →
      ∃ t, PSs (cxOf CX P w K mg base N qual scope f cdv A outer s H E) body t ∧ t { nx := fun _ H' => Q .non H', rt := Q } (start N vs) H) :
    FnG P w K mg base CX (k + 1) f (PySem.W.fnOf name qual params body scope dV kV doc pm an cdv ct) ps sp := by
  refine ⟨len, fun A outer s H args us vs Q E hgd hr e0 hb r hsp => ?_⟩
  have hl := len _ _ _ _ hsp
  have KX : K.In s.heap := e0.mod.kin.keeps fun b o e => (e0.bs b o e).1
  have lim : s.heap.NoLimit := e0.mod.nolimit.keeps fun b o e => (e0.bs b o e).1
  have hkind : ∀ y ∈ ps.zip us, scope.names.lookup y.1 = some .local ∨ (scope.names.lookup y.1 = some .cell ∧ ((cellsFrom (s.heap.objs.size + 1) scope.names []).lookup y.1).isSome = true) := fun ⟨n, v⟩ hy => by
    rcases S.par n (List.of_mem_zip hy).1 with q | q
    · exact .inl q
    · exact .inr ⟨q, PySem.W.cellsFrom_some _ _ _ (.inl q)⟩
  refine codeAny_call_function hr.depth (KX _ _ lk) rfl S.co S.gen rfl (PySem.W.codeRec_of KX hcd) (hb _ _ _ _ ?_)
  refine wpAny_newFunctionEnv_cells S.kind hkind fun env he s1 x => ?_
  subst he
  refine ⟨lim.keeps x.toInCall.keep, codeAny_func ?_⟩
  obtain ⟨t, ht, hq⟩ := hbody A outer s H vs Q E hgd (hr.deeper _) hsp
  have I : Inv (cxOf CX P w K mg base N qual scope f cdv A outer s H E) [] (start N vs) H s1 := inv_start S hr.hd e0 hl r x
  refine wpAny_mono (ht.run [] s1 (start N vs) H _ I hq) (fun fl s' hs => ?_) fun e s' hs => hs
  have fin : ∀ {σ' : L2.St} {H' : Hp} {v : V} {u : Value}, Inv (cxOf CX P w K mg base N qual scope f cdv A outer s H E) [] σ' H' s' → RelV v u → Q v H' → CE outer P w H s Q u s' :=
    fun {σ' H' v u} J rv q => ⟨v, H', J.os, J.bare, J.base, J.hok, rv, q⟩
  cases fl with
  | ret u =>
    obtain ⟨v, σ', H', J, rv, q⟩ := hs
    exact fin J rv q
  | next =>
    obtain ⟨σ', H', J, q⟩ := hs
    exact fin (v := V.non) (u := Value.none) J rfl q
  | brk =>
    obtain ⟨_, _, _, q⟩ := hs
    exact False.elim q
  | cont =>
    obtain ⟨_, _, _, q⟩ := hs
    exact False.elim q
section
variable {P : Program} {w : World} {K : PySem.W.Frag} {mg : Str → Option Value} {base : Heap}
theorem okG {x qual : Str} {st : Stmt} {f : Addr} {fd : FuncData} {N ps : List Str} {k : Nat} {sp : Sp} (F : Fun K x qual st f fd) (S : FnScope N ps (defScope st)) (len : ∀ vs H Q E, sp vs H Q E → vs.length = ps.length)
    (hbody : ∀ (cdv : Value) (A : Around) (outer : List Env) (s : Shared) (H : Hp) (vs : List V) (Q : VK) (E : XK), A.guards = some [] → Room k (A.deeper (envOfC qual (defScope st) s.heap.objs.size f cdv)) → sp vs H Q E →
      ∃ t, PSs (cxOf CX0 P w K mg base N qual (defScope st) f cdv A outer s H E).nox (defBody st) t ∧ t { nx := fun _ H' => Q .non H', rt := Q } (start N vs) H) : FnG P w K mg base CX0 (k + 1) f fd ps sp := by
  obtain ⟨oc, od, kV, doc, pm, an, cdv, ct, osl, rfl, lk, hcd⟩ := F.ex
  refine fnG_of lk hcd S len fun A outer s H vs Q E hgd hr hsp => ?_
  obtain ⟨t, h, q⟩ := hbody cdv A outer s H vs Q E hgd hr hsp
  exact ⟨t, h.nox, q⟩
end
section
variable {X : Cx} {CX : CXT} {k : Nat} {f : Addr} {fd : FuncData} {ps : List Str} {ds : List Value} {dvs : List V} {sp : Sp} {x : Str} {e : Expr} {es : List Expr} {t : TA} {E : XK} {p pos : Pos}
theorem run_fnG {pins : List (Addr × Obj)} {σ : L2.St} {H : Hp} {s : Shared} {Q : VK} {us : List Value} {vs : List V} (F : FnG X.prog X.w X.K X.mg X.base CX k f fd ps sp) (hgd : X.A.guards = some []) (hr : Room k X.A) (hb : Binds X.K fd ps ds) (hd : Vals dvs ds) (hx : Passes CX X E)
    (I : Inv X pins σ H s) (r : Vals vs us) (h : sp (vs ++ dvs) H Q E) : wpAny (model X.prog X.w) X.A (call (.ref f) us) (EP X pins σ Q) X.xe s := by
  have r2 : Vals (vs ++ dvs) (us ++ ds) := r.append hd
  have hl : (us ++ ds).length = ps.length := by rw [← r2.length]; exact F.len _ _ _ _ h
  refine wpAny_call (codeAny_mono (F.run X.A X.stack s H ⟨us, []⟩ (us ++ ds) (vs ++ dvs) Q E hgd hr I.env0 (hb s us I.kIn hl) r2 h) fun r s' hq => ?_)
  cases r with
  | error e => exact hx pins σ H s e s' I hq
  | ok fl =>
    cases fl with
    | ret u => exact I.after hq
    | next => exact False.elim hq
    | brk => exact False.elim hq
    | cont => exact False.elim hq
theorem pe_callG (F : FnG X.prog X.w X.K X.mg X.base CX k f fd ps sp) (hgd : X.A.guards = some []) (hr : Room k X.A) (hg : Gl X x) (hm : X.mg x = some (.ref f)) (hk : PySem.W.keepIn X.K (.ref f) = true) (hb : Binds X.K fd ps ds) (hd : Vals dvs ds) (hx : Passes CX X E)
    (ha : PA X (e :: es) t) (hdb : (x == ("__debug__" : Str)) = false := by decide) (he : starEach (e :: es) X.env = (false, eval e X.env) :: starEach es X.env := by rfl) (hpl : (backTo pos (starEach es X.env)).any (·.1) = false := by rfl) :
    PE X (.Call (.Name x p) (e :: es) [] pos) (tCall sp dvs E t) := by
  refine ⟨fun pins s σ H Q I h => ?_⟩
  refine wpAny_Call_Name_kw (ld_glob I hg hm ?_ hdb)
  refine PySem.W.callWith_K (h₀ := X.base) I.ok.mod.kin hk (thn (ha.run pos pins s σ H _ I h) fun us s1 ⟨vs, H1, I1, r, q⟩ => ⟨I1.kIn, ?_⟩) he hpl
  exact run_fnG F hgd hr hb hd hx I1 r q
/-- repr of data that stand at an address -/
def rRepr (K : PySem.W.Frag) : List V → Hp → VK → Prop := fun xs H Q => ∃ a d, xs = [.ref a] ∧ Dp K H (.ref a) d ∧ d.showable = true ∧ d.depth ≤ 60 ∧ d.hasDict = false ∧ d.shown.length ≤ sizeLine ∧ Q (.str d.shown) H
theorem call_reprD (hgd : X.A.guards = some []) (hr : Room k X.A) : CallR X (.builtin "repr") (rRepr X.K) := by
  intro pins s σ H xs us Q I r h
  obtain ⟨a, d, rfl, hd, hs, hdp, hnd, hsz, q⟩ := h
  obtain ⟨u, rfl, rx⟩ := vals1 r
  obtain ⟨as, rd⟩ := Dp.reads I d _ u hd rx
  cases rx
  have hun := hr.units
  refine repr_of_reads' rd hs (PyData.noDict_hsm hnd) hgd (by omega) (fun _ _ q => q) (fun h' u tk kp => ?_) hsz
  exact ⟨.str d.shown, H, I.kept (t' := tk) kp, ⟨_, rfl⟩, q⟩
end
/-! the end of a law that shows data -/
theorem law_callG {P : Program} {w : World} {K : PySem.W.Frag} {mg mb : Str → Option Value} {CX : CXT} {k : Nat} {fa a : Addr} {fd : FuncData} {x : Str} {sp : Sp} {s₁ : Shared} {vs : List Value} {ns : List Int}
    (KX : K.In s₁.heap) (hns : s₁.heap.Ns mainGlobals mg) (hb : s₁.heap.Ns builtinsNs mb) (hbb : ∀ x : Str, x ≠ "__name__" → mb x = bootBuiltins x) (hlim : s₁.heap.NoLimit) (hg : s₁.gens = #[])
    (ha : s₁.heap.get? a = some { cls := .type "list", data := .seq vs.toArray }) (hi : IntsAre vs ns) (hl : ns.length ≤ sizeLine) (hr : Room k callerA)
    (F : ∀ base : Heap, K.In base → base.Ns mainGlobals mg → FnG P w K mg base CX k fa fd [x] sp) (hbind : ∀ (s : Shared) (u : Value), BindsTo s fd ⟨[u], []⟩ [(x, u)])
    (hsp : ∀ H : Hp, Only H → SqL K H a (ns.map V.int) → sp [.ref a] H (fun v _ => v = .bl true) fun _ _ _ => False)
    (hCX : ∀ H e s', CX [] H s₁ (fun _ _ _ => False) e s' → False) :
    codeAny (model P w) callerA (.call (.ref fa) ⟨[.ref a], []⟩) (fun r s' => r = .ok (.ret (.bool true)) ∧ OldK s₁.heap s'.heap ∧ s'.os = s₁.os ∧ AllBare s'.gens) s₁ := by
  have rv := vals_ints hi
  have lenV := hi.length
  have core : ∀ H : Hp, Only H → SqL K H a (ns.map V.int) → HOk P w H s₁.heap → (∀ b, H b ≠ none → b = a) → (H a ≠ none → K.lookup a = none) →
      codeAny (model P w) callerA (.call (.ref fa) ⟨[.ref a], []⟩) (fun r s' => r = .ok (.ret (.bool true)) ∧ OldK s₁.heap s'.heap ∧ s'.os = s₁.os ∧ AllBare s'.gens) s₁ := by
    intro H hO hS hok hA hK
    have base_of : ∀ {b : Addr} {o : Obj}, s₁.heap.get? b = some o → H b = none → (hidT s₁.heap H).get? b = some o := fun e n => hidT_get e n
    have noA : ∀ {b : Addr} {o : Obj} {es : Array DictEntry} {ep : Nat}, s₁.heap.get? b = some o → o.data = .dict es ep → H b = none := fun {b o es ep} e d => by
      cases q : H b with
      | none => rfl
      | some u =>
        have e' : b = a := hA b (by rw [q]; simp)
        subst e'
        rw [ha] at e; cases e
        have d' : Data.seq vs.toArray _ = Data.dict es ep := d
        cases d'
    have nsK : ∀ {b : Addr} {m : Str → Option Value}, s₁.heap.Ns b m → (hidT s₁.heap H).Ns b m := fun {b m} ⟨o, es, ep, e, d, r⟩ => ⟨o, es, ep, base_of e (noA e d), d, r⟩
    have hKb : K.In (hidT s₁.heap H) := fun b o e => base_of (KX b o e) (by
      cases q : H b with
      | none => rfl
      | some u =>
        have e' : b = a := hA b (by rw [q]; simp)
        subst e'
        rw [hK (by rw [q]; simp)] at e; cases e)
    have hM : Mod K mg (hidT s₁.heap H) := ⟨hKb, nsK hns, ⟨mb, nsK hb, hbb⟩, let ⟨mc, h1, h2⟩ := hlim; ⟨mc, nsK h1, h2⟩⟩
    have e0 : Env0 P w K mg (hidT s₁.heap H) callerA [] s₁ H := ⟨rfl, hM, fun b o e => of_hidT e, Nat.le_of_eq (hidT_size _ _), trivial, fun b hb => absurd (show b ∈ ([] : List Addr) from hb) (by simp), hok, .of_eq hg⟩
    refine codeAny_mono ((F _ hKb (nsK hns)).run callerA [] s₁ H ⟨[.ref a], []⟩ [.ref a] [.ref a] _ _ rfl hr e0 (hbind s₁ (.ref a)) (.cons rfl .nil) (hsp H hO hS)) fun r s' h => ?_
    cases r with
    | error e => exact (hCX H e s' h).elim
    | ok fl =>
      cases fl with
      | next => exact False.elim h
      | brk => exact False.elim h
      | cont => exact False.elim h
      | ret u =>
        obtain ⟨v, H', os, bare, un, hok', r', q⟩ := h
        have q' : v = .bl true := q
        subst q'
        obtain rfl : u = Value.bool true := r'
        refine ⟨rfl, OldK.of_keep fun b o e => ?_, os, bare⟩
        cases q : H b with
        | none => exact un.keep b o e q (by intro z; exact absurd (show b ∈ ([] : List Addr) from z) (by simp)) (by simp)
        | some u =>
          rcases hO b with z | ⟨ob, xs, z⟩
          · rw [q] at z; cases z
          · have z2 := un.frzs b ob _ z
            obtain ⟨e1, _⟩ := hok b _ z
            obtain ⟨e2, _⟩ := hok' b _ z2
            rw [e] at e1; cases e1
            exact e2
  cases hk : K.lookup a with
  | some o =>
    have e := KX a o hk
    rw [ha] at e
    cases e
    refine core (fun _ => none) (fun _ => .inl rfl) (.inr ⟨_, vs.toArray, _, hk, rfl, rfl, rfl, by rw [List.size_toArray, lenV]; exact hl, by simpa using rv⟩) (fun b u z => by have z' : (none : Option HO) = some u := z; cases z') (fun b z => absurd rfl z) fun z => absurd rfl z
  | none =>
    refine core (fun b => if b = a then some (.frz { cls := .type "list", data := .seq vs.toArray } (.lst (ns.map V.int))) else none) (fun b => ?_) (.inl (.inr ⟨{ cls := .type "list", data := .seq vs.toArray }, if_pos rfl⟩)) (fun b u z => ?_) (fun b z => ?_) fun _ => hk
    · by_cases hb : b = a
      · exact .inr ⟨_, _, if_pos hb⟩
      · exact .inl (if_neg hb)
    · by_cases hb : b = a
      · have z' := (if_pos hb).symm.trans z
        cases z'
        subst hb
        exact ⟨ha, by rw [List.length_map]; exact hl, vs, _, rv, ha⟩
      · have z' := (if_neg hb).symm.trans z
        cases z'
    · by_cases hb : b = a
      · exact hb
      · exact absurd (if_neg hb) z
theorem walk_ofG {l : PySem.W.OpenLaw} {n k : Nat} {q : Program} {loose : List Str} {XP : (Str → Option Value) → Heap → Prop} {YP : World → Heap → Prop} {d : DefRec} {K : Params → PySem.W.Frag} {CX : World → CXT} {sp : World → Sp} {x : Str}
    (hn : l.most = some n) (hn2 : n ≤ sizeLine) (hdf : d.params.defaults = []) (hr : Room k callerA)
    (hY : ∀ (w : World) (h : Heap), YP w h → (K w.params).In h)
    (F : ∀ (w : World) (mg : Str → Option Value) (fa : Addr) (h : Heap), (K w.params).In h → h.Ns mainGlobals mg → mg d.name = some (.ref fa) →
      ∃ fd : FuncData, (∀ (s : Shared) (u : Value), BindsTo s fd ⟨[u], []⟩ [(x, u)]) ∧
        ∀ base : Heap, (K w.params).In base → base.Ns mainGlobals mg → FnG l.prog w (K w.params) mg base (CX w) k fa fd [x] (sp w))
    (hsp : ∀ (w : World) (H : Hp) (a : Addr) (ns : List Int), ns.length ≤ n → Only H → SqL (K w.params) H a (ns.map V.int) → sp w [.ref a] H (fun v _ => v = .bl true) fun _ _ _ => False)
    (hCX : ∀ (w : World) (H : Hp) (s : Shared) (e : Value) (s' : Shared), CX w [] H s (fun _ _ _ => False) e s' → False) :
    PySem.W.WalkO q loose XP YP l.row.toRowW d [] (fun f vs => PySem.call f vs) := by
  refine Att.attach_call hn hdf fun w s₀ s₁ mg mb fa o pm cd doc a vs ns G Y ho hd hcd hmg hobj hints hlen hg => ?_
  have KX := hY w _ Y
  obtain ⟨fd, hb, hF⟩ := F w mg fa _ KX G.T.g hmg
  exact law_callG KX G.T.g G.T.b G.T.builtins G.T.nolimit hg hobj hints (Nat.le_trans hlen hn2) hr hF hb (fun H hO hS => hsp w H a ns hlen hO hS) fun H e s' => hCX w H s₁ e s'
end Way

/-! == and != of instances whose class has neither: by identity -/
namespace Way
open PySem PySem.Spec PyProof.Rows L2
section
variable {M : Model} {prog : Program} {w : World} {A : Around} {E : Value → Shared → Prop} {s : Shared} {K : PySem.W.Frag} {x y C : Addr} {ox oy : Obj} {od oe : Option Obj}
theorem inst_noTuple (I : PySem.W.InstAt s.heap x ox C od) : ox.cls ≠ .type "tuple" := by
  rw [I.cls]; intro e; cases e
theorem callEq_same {Q : Value → Shared → Prop} (X : K.In s.heap) (I : PySem.W.InstAt s.heap x ox C od) (hm : PySem.W.mroIn K C (.type "object") = some true) (hq : Q (.bool true) s) :
    wpAny (model prog w) A (call (.builtin "object.__eq__") [.ref x, .ref x]) Q E s :=
  wpAny_call (codeAny_call_builtin F.cmp_object.eq.plain F.cmpEntry_eq (PySem.W.check_slot F.cmpKind_eq F.cmpSplit_eq (I.type.andThen (PySem.W.looks_mroIn X hm)) (F.cmpArgs_eq _ _) (objEq_entry_same hq)))
theorem callEq_other {Q : Value → Shared → Prop} (X : K.In s.heap) (I : PySem.W.InstAt s.heap x ox C od) (J : PySem.W.InstAt s.heap y oy C oe) (hxy : x ≠ y) (hm : PySem.W.mroIn K C (.type "object") = some true) (hq : Q .notImplemented s) :
    wpAny (model prog w) A (call (.builtin "object.__eq__") [.ref x, .ref y]) Q E s :=
  wpAny_call (codeAny_call_builtin F.cmp_object.eq.plain F.cmpEntry_eq (PySem.W.check_slot F.cmpKind_eq F.cmpSplit_eq (I.type.andThen (PySem.W.looks_mroIn X hm)) (F.cmpArgs_eq _ _) (objEq_entry_other hxy I.at_ J.at_ (inst_noTuple I) hq)))
theorem neEntry_other {Q : PySem.Fin → Shared → Prop} (hu : A.units < cLine) (X : K.In s.heap) (I : PySem.W.InstAt s.heap x ox C od) (J : PySem.W.InstAt s.heap y oy C oe) (hxy : x ≠ y) (hm : PySem.W.mroIn K C (.type "object") = some true) (hs : PySem.W.findIn K (.ref C) "__eq__" = some (some (.builtin "object.__eq__")))
    (hq : Q (.done (.ret .notImplemented)) s) : wpAny (model prog w) A (Builtin.«object.__ne__» ⟨[.ref x, .ref y], []⟩) Q E s := by
  unfold Builtin.«object.__ne__»
  repeat (first
    | with_reducible refine wpAny_cRoomFor hu ?_
    | (refine wpAny_bind (m := callSpecialIfBound? (.ref x) (Str.ofString "__eq__") [.ref y]) (HN.ifBound_objEq X I hs (callEq_other X I J hxy hm ?_)))
    | wp_step)
  exact hq
theorem callNe_other {Q : Value → Shared → Prop} (hu : A.in1.units < cLine) (X : K.In s.heap) (I : PySem.W.InstAt s.heap x ox C od) (J : PySem.W.InstAt s.heap y oy C oe) (hxy : x ≠ y) (hm : PySem.W.mroIn K C (.type "object") = some true) (hs : PySem.W.findIn K (.ref C) "__eq__" = some (some (.builtin "object.__eq__"))) (hq : Q .notImplemented s) :
    wpAny (model prog w) A (call (.builtin "object.__ne__") [.ref x, .ref y]) Q E s :=
  wpAny_call (codeAny_call_builtin F.cmp_object.ne.plain F.cmpEntry_ne (PySem.W.check_slot F.cmpKind_ne F.cmpSplit_ne (I.type.andThen (PySem.W.looks_mroIn X hm)) (F.cmpArgs_ne _ _) (neEntry_other hu X I J hxy hm hs hq)))
theorem rc_eqSame {Q : Value → Shared → Prop} (hu : A.units < cLine) (X : K.In s.heap) (I : PySem.W.InstAt s.heap x ox C od) (hm : PySem.W.mroIn K C (.type "object") = some true) (hs : PySem.W.findIn K (.ref C) "__eq__" = some (some (.builtin "object.__eq__")))
    (h : Q (.bool true) s) : wpAny (model prog w) A (richCompare .Eq (.ref x) (.ref x)) Q E s := by
  have one : wpAny (model prog w) A (tryCompare (.ref x) "__eq__" (.ref x)) (fun r s' => r = some (.bool true) ∧ s' = s) E s := by
    unfold tryCompare
    exact wpAny_bind (HN.ifBound_objEq X I hs (callEq_same X I hm (wpAny_pure ⟨rfl, rfl⟩)))
  simp only [richCompare, cmpInfo_Eq, oneThing_ref]
  refine wpAny_holding (wpAny_bind (wpAny_cRoomFor hu ?_))
  refine wpAny_bind (I.type.here (wpAny_bind (I.type.here ?_)))
  rw [if_neg (by simp)]
  refine wpAny_bind (wpAny_pure ?_)
  simp only [Bool.false_eq_true, if_false]
  refine wpAny_bind (wpAny_mono one (fun r s' z => ?_) fun _ _ e => e)
  obtain ⟨rfl, rfl⟩ := z
  exact wpAny_pure h
theorem rc_neOther {Q : Value → Shared → Prop} (hu : A.units < cLine) (hu1 : A.in1.units < cLine) (X : K.In s.heap) (I : PySem.W.InstAt s.heap x ox C od) (J : PySem.W.InstAt s.heap y oy C oe) (hxy : x ≠ y) (hm : PySem.W.mroIn K C (.type "object") = some true) (hs : PySem.W.findIn K (.ref C) "__eq__" = some (some (.builtin "object.__eq__")))
    (hne : PySem.W.findIn K (.ref C) "__ne__" = some (some (.builtin "object.__ne__"))) (h : Q (.bool true) s) : wpAny (model prog w) A (richCompare .NotEq (.ref x) (.ref y)) Q E s := by
  have one : wpAny (model prog w) A (tryCompare (.ref x) "__ne__" (.ref y)) (fun r s' => r = none ∧ s' = s) E s := by
    unfold tryCompare
    exact wpAny_bind (ifBound_objNe X I hne (callNe_other hu1 X I J hxy hm hs (wpAny_pure ⟨rfl, rfl⟩)))
  have two : wpAny (model prog w) A (tryCompare (.ref y) "__ne__" (.ref x)) (fun r s' => r = none ∧ s' = s) E s := by
    unfold tryCompare
    exact wpAny_bind (ifBound_objNe X J hne (callNe_other hu1 X J I hxy.symm hm hs (wpAny_pure ⟨rfl, rfl⟩)))
  simp only [richCompare, cmpInfo_NotEq, oneThing_ref]
  refine wpAny_holding (wpAny_bind (wpAny_cRoomFor hu ?_))
  refine wpAny_bind (I.type.here (wpAny_bind (J.type.here ?_)))
  rw [if_neg (by simp)]
  refine wpAny_bind (wpAny_pure ?_)
  simp only [Bool.false_eq_true, if_false, Bool.not_false, if_true]
  refine wpAny_bind (m := tryCompare (.ref x) _ (.ref y)) (wpAny_mono one (fun r s1 z => ?_) fun _ _ e => e)
  obtain ⟨z1, z2⟩ := z
  subst z1
  subst z2
  refine wpAny_bind (m := tryCompare (.ref y) _ (.ref x)) (wpAny_mono two (fun r s2 z => ?_) fun _ _ e => e)
  obtain ⟨z1, z2⟩ := z
  subst z1
  subst z2
  exact wpAny_bind (wpAny_rule (wpAny_bind (wpAny_isSame_ref_other hxy I.at_ J.at_ (inst_noTuple I) (wpAny_pure h))))
end
section
variable {X : Cx} {k : Nat} {C : Addr}
structure ByIdent (K : PySem.W.Frag) (C : Addr) : Prop where
  mro : PySem.W.mroIn K C (.type "object") = some true
  eq : PySem.W.findIn K (.ref C) "__eq__" = some (some (.builtin "object.__eq__"))
  ne : PySem.W.findIn K (.ref C) "__ne__" = some (some (.builtin "object.__ne__"))
/-- o == o -/
def rEqI (C : Addr) : R2 := fun x y H Q => ∃ a dx fs, x = .ref a ∧ y = .ref a ∧ H a = some (.ins C dx fs) ∧ Q (.bl true) H
theorem op_eqI (B : ByIdent X.K C) (hr : Room k X.A) : OpR X (compareOp .Eq) (rEqI C) := by
  intro pins s σ H x y v u Q I rx ry h
  obtain ⟨a, dx, fs, rfl, rfl, ha, q⟩ := h
  cases rx
  cases ry
  obtain ⟨mA, J, _⟩ := ins_get I.hok ha
  obtain ⟨od, J, _⟩ := J.look
  show wpAny (model X.prog X.w) X.A (richCompare .Eq (.ref a) (.ref a)) (EP X pins σ Q) X.xe s
  exact rc_eqSame hr.units0 I.kIn J B.mro B.eq ⟨.bl true, H, I, rfl, q⟩
/-- o != p, two of one class -/
def rNeI (C : Addr) : R2 := fun x y H Q => ∃ a b dx fs dy gs, x = .ref a ∧ y = .ref b ∧ a ≠ b ∧ H a = some (.ins C dx fs) ∧ H b = some (.ins C dy gs) ∧ Q (.bl true) H
theorem op_neI (B : ByIdent X.K C) (hr : Room k X.A) : OpR X (compareOp .NotEq) (rNeI C) := by
  intro pins s σ H x y v u Q I rx ry h
  obtain ⟨a, b, dx, fs, dy, gs, rfl, rfl, hab, ha, hb, q⟩ := h
  cases rx
  cases ry
  obtain ⟨mA, J, _⟩ := ins_get I.hok ha
  obtain ⟨od, J, _⟩ := J.look
  obtain ⟨mB, J2, _⟩ := ins_get I.hok hb
  obtain ⟨oe, J2, _⟩ := J2.look
  show wpAny (model X.prog X.w) X.A (richCompare .NotEq (.ref a) (.ref b)) (EP X pins σ Q) X.xe s
  have hu1 : X.A.in1.units < cLine := by have := hr.un; show X.A.units + 1 < cLine; omega
  exact rc_neOther hr.units0 hu1 I.kIn J J2 hab B.mro B.eq B.ne ⟨.bl true, H, I, rfl, q⟩
end
end Way

/-! data whose showing fits -/
namespace Way
open PySem PySem.Spec PyProof.Rows L2
structure Shw (n m : Nat) (d : PyData) : Prop where
  sh : d.showable = true
  lv : d.leavesShort 300 = true
  wt : d.weight ≤ n
  dp : d.depth ≤ m
  nd : d.hasDict = false
structure ShwA (n m : Nat) (ds : List PyData) : Prop where
  sh : PyData.showableAll ds = true
  lv : PyData.leavesShortAll 300 ds = true
  wt : PyData.weightAll ds ≤ n
  dp : PyData.depthAll ds ≤ m
  nd : PyData.hasDictAll ds = false
theorem sw_nil {m : Nat} : ShwA 0 m [] := ⟨by simp [PyData.showableAll], by simp [PyData.leavesShortAll], by simp [PyData.weightAll], by simp [PyData.depthAll], by simp [PyData.hasDictAll]⟩
theorem sw_cons {a b m : Nat} {d : PyData} {ds : List PyData} (h : Shw a m d) (t : ShwA b m ds) : ShwA (a + 1 + b) m (d :: ds) :=
  ⟨by simp [PyData.showableAll, h.sh, t.sh], by simp [PyData.leavesShortAll, h.lv, t.lv], by have := h.wt; have := t.wt; simp only [PyData.weightAll]; omega, by have := h.dp; have := t.dp; simp only [PyData.depthAll]; omega, by simp [PyData.hasDictAll, h.nd, t.nd]⟩
theorem ShwA.le {a b m : Nat} {ds : List PyData} (h : ShwA a m ds) (e : a ≤ b) : ShwA b m ds := ⟨h.sh, h.lv, Nat.le_trans h.wt e, h.dp, h.nd⟩
theorem sw_all {a m : Nat} : ∀ {ds : List PyData}, (∀ d ∈ ds, Shw a m d) → ShwA ((a + 1) * ds.length) m ds
  | [], _ => sw_nil
  | d :: ds, h => (sw_cons (h d (List.mem_cons_self ..)) (sw_all fun x hx => h x (List.mem_cons_of_mem _ hx))).le (by rw [List.length_cons, Nat.mul_add]; omega)
theorem sw_tup {a m : Nat} {ds : List PyData} (h : ShwA a m ds) : Shw a (m + 1) (.tuple ds) :=
  ⟨by simp only [PyData.showable]; exact h.sh, by simp only [PyData.leavesShort]; exact h.lv, by simp only [PyData.weight]; exact h.wt, by simp only [PyData.depth]; have := h.dp; omega, by simp only [PyData.hasDict]; exact h.nd⟩
theorem sw_lst {a m : Nat} {ds : List PyData} (h : ShwA a m ds) : Shw a (m + 1) (.list ds) :=
  ⟨by simp only [PyData.showable]; exact h.sh, by simp only [PyData.leavesShort]; exact h.lv, by simp only [PyData.weight]; exact h.wt, by simp only [PyData.depth]; have := h.dp; omega, by simp only [PyData.hasDict]; exact h.nd⟩
theorem Shw.le {a b m k : Nat} {d : PyData} (h : Shw a m d) (e : a ≤ b) (f : m ≤ k) : Shw b k d := ⟨h.sh, h.lv, Nat.le_trans h.wt e, Nat.le_trans h.dp f, h.nd⟩
theorem sw_non {m : Nat} : Shw 0 m .none := ⟨by simp [PyData.showable], by simp [PyData.leavesShort], by simp [PyData.weight], by simp [PyData.depth], by simp [PyData.hasDict]⟩
theorem sw_int {i : Int} {m : Nat} (h : i.natAbs.log2 < 200) : Shw 200 m (.int i) := by
  refine ⟨by simp only [PyData.showable]; exact decide_eq_true (by omega), ?_, ?_, by simp only [PyData.depth]; omega, by simp only [PyData.hasDict]⟩
  · have := int_text_length_le (a := i) (k := 200) (by decide) h
    simp only [PyData.leavesShort, PyData.shown]
    refine decide_eq_true ?_
    rw [PySem.ofString_length]
    omega
  · simp only [PyData.weight]
    split <;> omega
theorem sw_str {x : Str} {m : Nat} (h : x.cps.toList.all (fun c => decide (c < 16 ^ 8)) = true) : Shw x.cps.size m (.str x) :=
  ⟨by simp only [PyData.showable], by simp only [PyData.leavesShort]; exact h, by simp only [PyData.weight]; omega, by simp only [PyData.depth]; omega, by simp only [PyData.hasDict]⟩
theorem Shw.fits {n m : Nat} {d : PyData} (h : Shw n m d) (e : n ≤ 50000) : d.shown.length ≤ sizeLine := by
  have h1 := PyData.shown_le 300 (by decide) d h.lv
  have h2 := h.wt
  have h3 : sizeLine = 16777216 := rfl
  rw [h3]
  have h4 : (300 + 2) * d.weight ≤ 302 * 50000 := Nat.mul_le_mul_left _ (by omega)
  omega
section
variable {X : Cx} {k : Nat}
/-- repr of None or of data at an address -/
def rReprO (K : PySem.W.Frag) : List V → Hp → VK → Prop := fun xs H Q => ∃ v d n m, xs = [v] ∧ (v = .non ∨ ∃ a, v = .ref a) ∧ Dp K H v d ∧ Shw n m d ∧ n ≤ 50000 ∧ m ≤ 60 ∧ Q (.str d.shown) H
theorem call_reprO (hgd : X.A.guards = some []) (hr : Room k X.A) : CallR X (.builtin "repr") (rReprO X.K) := by
  intro pins s σ H xs us Q I r h
  obtain ⟨v, d, n, m, rfl, hv, hd, hs, hn, hm, q⟩ := h
  rcases hv with rfl | ⟨a, rfl⟩
  · obtain ⟨u, rfl, rx⟩ := vals1 r
    cases rx
    cases hd
    refine P.repr_of_none ?_
    have q' : Q (.str "None") H := by simpa only [PyData.shown] using q
    exact ⟨.str "None", H, I.tok _, ⟨_, rfl⟩, q'⟩
  · exact call_reprD hgd hr pins s σ H _ us Q I r ⟨a, d, rfl, hd, hs.sh, Nat.le_trans hs.dp hm, hs.nd, hs.fits hn, q⟩
end
end Way

/-! the pen that a law draws from: a dict of six texts -/
namespace Way
open PySem PySem.Spec PyProof.Rows L2 Evl
section
variable {H : Hp} {σ : L2.St} {td ty te : TE} {D : Ends} {tz : TS}
theorem ev_dget {a : Addr} {y v : V} (h1 : Ev td σ H (.ref a)) (h2 : Ev ty σ H y) (g : ∀ H1, Ex H H1 → DGet H1 a y (some v)) : Ev (tDGet td ty) σ H v := fun H1 e Q q =>
  h1 H1 e _ fun H2 e2 => h2 H2 (e.trans e2) _ fun H3 e3 => ⟨a, v, rfl, g H3 ((e.trans e2).trans e3), q H3 (e2.trans e3)⟩
theorem ev_dgetK {a : Addr} {kvs : List (Key × V)} {k : Str} {v : V} (h1 : Ev td σ H (.ref a)) (h2 : Ev ty σ H (.str k)) (h : H a = some (.dK kvs)) (hv : valV kvs (.inr k) = some v) : Ev (tDGet td ty) σ H v :=
  ev_dget h1 h2 fun H1 e => hv ▸ DGet.k (k := .inr k) (e _ _ h)
theorem s_dput {a : Addr} {kvs : List (Key × V)} {k : Str} {v : V} (h : H a = some (.dK kvs)) (hv : Ev te σ H v) (h1 : Ev td σ H (.ref a)) (h2 : Ev ty σ H (.str k)) (hz : kvs.length < 100000) (q : ∀ H1, Ex H H1 → D.nx σ (upd H1 a (.dK (putK kvs (.inr k) v)))) :
    tAsg te (gSub td ty rSetD) D σ H := hv H (Ex.refl H) _ fun H1 e1 => h1 H1 e1 _ fun H2 e2 => h2 H2 (e1.trans e2) _ fun H3 e3 =>
  ⟨a, _, rfl, DPut.k (k := .inr k) (((e1.trans e2).trans e3) _ _ h) (sz_lt hz), q H3 ((e1.trans e2).trans e3)⟩
theorem q_dput {a : Addr} {kvs : List (Key × V)} {k : Str} {v : V} (h : H a = some (.dK kvs)) (hv : Ev te σ H v) (h1 : Ev td σ H (.ref a)) (h2 : Ev ty σ H (.str k)) (hz : kvs.length < 100000) (q : ∀ H1, Ex H H1 → tz D σ (upd H1 a (.dK (putK kvs (.inr k) v)))) :
    tSeq (tAsg te (gSub td ty rSetD)) tz D σ H := s_dput (D := { D with nx := tz D }) h hv h1 h2 hz q
end
def penK (c : Addr) (i r d m t : Int) : List (Key × V) := [(.inr "cells", .ref c), (.inr "at", .int i), (.inr "rest", .int r), (.inr "digits", .int d), (.inr "mix", .int m), (.inr "turn", .int t)]
theorem kne {x y : Str} (h : x ≠ y) : ¬ (Sum.inr x : Key) = Sum.inr y := fun e => h (Sum.inr.inj e)
section
variable {c : Addr} {i r d m t z : Int}
theorem pk_cells : valV (penK c i r d m t) (.inr "cells") = some (.ref c) := valV_pos rfl
theorem pk_at : valV (penK c i r d m t) (.inr "at") = some (.int i) := (valV_neg (kne (by decide +kernel))).trans (valV_pos rfl)
theorem pk_rest : valV (penK c i r d m t) (.inr "rest") = some (.int r) := (valV_neg (kne (by decide +kernel))).trans ((valV_neg (kne (by decide +kernel))).trans (valV_pos rfl))
theorem pk_digits : valV (penK c i r d m t) (.inr "digits") = some (.int d) := (valV_neg (kne (by decide +kernel))).trans ((valV_neg (kne (by decide +kernel))).trans ((valV_neg (kne (by decide +kernel))).trans (valV_pos rfl)))
theorem pk_mix : valV (penK c i r d m t) (.inr "mix") = some (.int m) := (valV_neg (kne (by decide +kernel))).trans ((valV_neg (kne (by decide +kernel))).trans ((valV_neg (kne (by decide +kernel))).trans ((valV_neg (kne (by decide +kernel))).trans (valV_pos rfl))))
theorem pk_turn : valV (penK c i r d m t) (.inr "turn") = some (.int t) := (valV_neg (kne (by decide +kernel))).trans ((valV_neg (kne (by decide +kernel))).trans ((valV_neg (kne (by decide +kernel))).trans ((valV_neg (kne (by decide +kernel))).trans ((valV_neg (kne (by decide +kernel))).trans (valV_pos rfl)))))
theorem kcons_ne {x y : Str} {v w : V} (h : x ≠ y) : (if (Sum.inr x : Key) = Sum.inr y then ((Sum.inr x : Key), w) else (Sum.inr x, v)) = (Sum.inr x, v) := if_neg (kne h)
theorem kcons_eq {x : Str} {v w : V} : (if (Sum.inr x : Key) = Sum.inr x then ((Sum.inr x : Key), w) else (Sum.inr x, v)) = (Sum.inr x, w) := if_pos rfl
theorem put_has {kvs : List (Key × V)} {k : Key} {v : V} (h : (valV kvs k).isSome = true) : putK kvs k v = kvs.map fun kv => if kv.1 = k then (kv.1, v) else kv := by
  unfold putK
  rw [if_pos (by rw [valV_any]; exact h)]
theorem pp_at : putK (penK c i r d m t) (.inr "at") (.int z) = penK c z r d m t := by
  rw [put_has (by rw [pk_at]; rfl)]
  unfold penK
  simp only [List.map_cons, List.map_nil]
  rw [kcons_ne (by decide +kernel), if_pos True.intro, kcons_ne (by decide +kernel), kcons_ne (by decide +kernel), kcons_ne (by decide +kernel), kcons_ne (by decide +kernel)]
theorem pp_rest : putK (penK c i r d m t) (.inr "rest") (.int z) = penK c i z d m t := by
  rw [put_has (by rw [pk_rest]; rfl)]
  unfold penK
  simp only [List.map_cons, List.map_nil]
  rw [kcons_ne (by decide +kernel), kcons_ne (by decide +kernel), if_pos True.intro, kcons_ne (by decide +kernel), kcons_ne (by decide +kernel), kcons_ne (by decide +kernel)]
theorem pp_digits : putK (penK c i r d m t) (.inr "digits") (.int z) = penK c i r z m t := by
  rw [put_has (by rw [pk_digits]; rfl)]
  unfold penK
  simp only [List.map_cons, List.map_nil]
  rw [kcons_ne (by decide +kernel), kcons_ne (by decide +kernel), kcons_ne (by decide +kernel), if_pos True.intro, kcons_ne (by decide +kernel), kcons_ne (by decide +kernel)]
theorem pp_mix : putK (penK c i r d m t) (.inr "mix") (.int z) = penK c i r d z t := by
  rw [put_has (by rw [pk_mix]; rfl)]
  unfold penK
  simp only [List.map_cons, List.map_nil]
  rw [kcons_ne (by decide +kernel), kcons_ne (by decide +kernel), kcons_ne (by decide +kernel), kcons_ne (by decide +kernel), if_pos True.intro, kcons_ne (by decide +kernel)]
theorem pp_turn : putK (penK c i r d m t) (.inr "turn") (.int z) = penK c i r d m z := by
  rw [put_has (by rw [pk_turn]; rfl)]
  unfold penK
  simp only [List.map_cons, List.map_nil]
  rw [kcons_ne (by decide +kernel), kcons_ne (by decide +kernel), kcons_ne (by decide +kernel), kcons_ne (by decide +kernel), kcons_ne (by decide +kernel), if_pos True.intro]
theorem pk_made : mergeK [] (penK c i r d m t) = penK c i r d m t := by
  have h : ∀ (a b : List (Key × V)) (p : Key × V), valV a p.1 = none → mergeK a (p :: b) = mergeK (a ++ [p]) b := fun a b p e => by
    show mergeK (putK a p.1 p.2) b = _
    rw [putK_new _ e]
  unfold penK
  rw [h _ _ _ valV_nil, h _ _ _ (by rw [List.nil_append, valV_neg (kne (by decide +kernel)), valV_nil]),
    h _ _ _ (by simp only [List.nil_append, List.cons_append]; rw [valV_neg (kne (by decide +kernel)), valV_neg (kne (by decide +kernel)), valV_nil]),
    h _ _ _ (by simp only [List.nil_append, List.cons_append]; rw [valV_neg (kne (by decide +kernel)), valV_neg (kne (by decide +kernel)), valV_neg (kne (by decide +kernel)), valV_nil]),
    h _ _ _ (by simp only [List.nil_append, List.cons_append]; rw [valV_neg (kne (by decide +kernel)), valV_neg (kne (by decide +kernel)), valV_neg (kne (by decide +kernel)), valV_neg (kne (by decide +kernel)), valV_nil]),
    h _ _ _ (by simp only [List.nil_append, List.cons_append]; rw [valV_neg (kne (by decide +kernel)), valV_neg (kne (by decide +kernel)), valV_neg (kne (by decide +kernel)), valV_neg (kne (by decide +kernel)), valV_neg (kne (by decide +kernel)), valV_nil])]
  rfl
end
/-- a pen at p over the cells at c, drawn from at most k times -/
def Pen (H : Hp) (p c : Addr) (k : Nat) : Prop := ∃ (cs : List Int) (i r d m t : Int), H p = some (.dK (penK c i r d m t)) ∧ H c = some (.lst (cs.map V.int)) ∧ 0 ≤ i ∧ 0 ≤ d ∧ d ≤ 50 ∧ 0 ≤ m ∧ m < 2147483648 ∧ 0 ≤ t ∧ t ≤ k
theorem Pen.le {H : Hp} {p c : Addr} {j k : Nat} (h : Pen H p c j) (e : j ≤ k) : Pen H p c k := let ⟨cs, i, r, d, m, t, h1, h2, a1, a2, a3, a4, a5, a6, a7⟩ := h; ⟨cs, i, r, d, m, t, h1, h2, a1, a2, a3, a4, a5, a6, by omega⟩
theorem Pen.mono {H H' : Hp} {p c : Addr} {k : Nat} (h : Pen H p c k) (e : Same H H') : Pen H' p c k := let ⟨cs, i, r, d, m, t, h1, h2, a⟩ := h; ⟨cs, i, r, d, m, t, e _ _ h1, e _ _ h2, a⟩
theorem Pen.kp {H H' : Hp} {s p c : Addr} {k : Nat} (h : Pen H p c k) (e : Kp s H H') (n1 : p ≠ s) (n2 : c ≠ s) : Pen H' p c k := let ⟨cs, i, r, d, m, t, h1, h2, a⟩ := h; ⟨cs, i, r, d, m, t, e _ _ n1 h1, e _ _ n2 h2, a⟩
theorem Pen.here {H : Hp} {p c : Addr} {k : Nat} (h : Pen H p c k) : ∃ kvs, H p = some (.dK kvs) := let ⟨_, _, _, _, _, _, h1, _⟩ := h; ⟨_, h1⟩
theorem Pen.cells {H : Hp} {p c : Addr} {k : Nat} (h : Pen H p c k) : ∃ cs : List Int, H c = some (.lst (cs.map V.int)) := let ⟨cs, _, _, _, _, _, _, h2, _⟩ := h; ⟨cs, h2⟩
theorem Pen.ne {H : Hp} {p c q : Addr} {k : Nat} (h : Pen H p c k) (e : H q = none) : q ≠ p := let ⟨o, ho⟩ := h.here; fun z => by rw [z, ho] at e; cases e
theorem Pen.neC {H : Hp} {p c q : Addr} {k : Nat} (h : Pen H p c k) (e : H q = none) : q ≠ c := let ⟨o, ho⟩ := h.cells; fun z => by rw [z, ho] at e; cases e
theorem Pen.upd {H : Hp} {p c q : Addr} {k : Nat} {o : HO} (h : Pen H p c k) (n1 : q ≠ p) (n2 : q ≠ c) : Pen (upd H q o) p c k := let ⟨cs, i, r, d, m, t, h1, h2, a⟩ := h; ⟨cs, i, r, d, m, t, (upd_ne n1.symm).trans h1, (upd_ne n2.symm).trans h2, a⟩
end Way

/-! an own exception's __init__ that begins with super().__init__(..) -/
namespace Way
open PySem PySem.Spec PyProof.Rows L2 NdefX
/-- what the written part says of the def: its function, code, the cell of its class -/
structure SupFn (K : PySem.W.Frag) (prog : Program) (name qual : Str) (st : Stmt) (f : Addr) (fd : FuncData) (D c cc : Addr) : Prop where
  ex : ∃ (oc kV doc pm ct : Value) (od an : Option Addr) (osl : Array (Option Value)), fd = PySem.W.fnX name qual (defArgs st) (defBody st) (defScope st) [("__class__", cc)] .none kV doc pm an (.ref c) ct ∧ K.lookup f = some ⟨oc, od, .func fd, osl⟩
  cd : PySem.W.codeIn K (.ref c) qual = true
  file : ∃ (ccl : Value) (cdd : Option Addr) (vs : Array Value) (ccs : Array (Option Value)) (file : Str) (tf : Tok), K.lookup c = some ⟨ccl, cdd, .fields vs, ccs⟩ ∧ vs[2]? = some (.str file tf) ∧ ((prog.main.file : Str) == file) = true
  cell : ∃ (cl : Value) (cld : Option Addr) (csl : Array (Option Value)), K.lookup cc = some ⟨cl, cld, .cell (some (.ref D)), csl⟩
  sub : PySem.W.mroIn K D (.ref D) = some true
  opq : PySem.W.nsIn K cStatics "thirdparty.any" = some none
  sup : PySem.W.ks_superIn K D D "__init__" = some (some (.builtin "ValueError.__init__"))
  ve : PySem.W.subIn K (.ref D) (.type "ValueError") = some true
  top : (prog.main.scope.names.lookup ("super" : Str)).isSome = false
section
variable {X : Cx} {pins : List (Addr × Obj)} {σ : L2.St} {H : Hp} {s : Shared} {a C u : Addr} {E : Value → Shared → Prop} {A : Around}
/-- the bound ValueError.__init__ is called -/
theorem mw_init {us : List Value} {Q : Value → Shared → Prop} (T : OexC X.K C) (I : Inv X pins σ H s) (e : H a = some (exo a C none)) (hu : s.heap.get? u = some (PySem.W.kxs_mw "ValueError.__init__" a)) (hl : us.length ≤ sizeLine) (h : ∀ s', Inv X pins σ H s' → Q .none s') :
    wpAny (model X.prog X.w) A (call (.ref u) us) Q E s := by
  obtain ⟨nm, q, N, bs, bm, sn, sub, ab, col, dd, k0, k1, k2, k3, k5, hC, hbm⟩ := T.cls
  obtain ⟨t1, ho⟩ := exo_at I.hok e
  have KX := I.kIn
  obtain ⟨hp, g, d, t, os⟩ := s
  refine wpAny_call (codeAny_of_tree ?_)
  show wpAny _ A.in1 (callAny (.ref u) ⟨us, []⟩) _ _ _
  simp only [callAny]
  refine wpAny_bind (wpAny_load hu ?_)
  simp only [PySem.W.kxs_mw, show (Value.type "method-wrapper" == Value.type "method" || Value.type "method-wrapper" == Value.type "builtin_function_or_method" || Value.type "method-wrapper" == Value.type "method-wrapper") = true by decide, if_true]
  refine PySem.W.KFB.if_so (by decide) ?_
  refine wpAny_bind (PySem.W.check_bound_init F.excBase_ValueError.toExcCallFacts (KX _ _ hC) ho rfl ?_)
  refine wpAny_bind (wpAny_pure (wpAny_pure ?_))
  refine ⟨plainId_quiet F.excBase_ValueError.init.plain _, codeAny_builtin F.excBase_ValueError.initEntry ?_⟩
  refine PySem.W.exc_init_tree (cls := .ref C) (t0 := t1) (dv := none) (c2 := .none) (c3 := .none) (b4 := .bool false) ho hl fun h' k hx ht => ?_
  have J := I.write (t' := t) (x := a) (e := a) (o := exo a C none) (by rw [e]; exact True.intro) (.inl rfl) k ⟨_, hx⟩ (exo_ok hx)
  have eu : upd H a (exo a C none) = H := by
    funext b
    by_cases hb : b = a
    · rw [hb, upd_same, e]
    · rw [upd_ne hb]
  rw [eu] at J
  exact h _ J
end
section
variable {P : Program} {w : World} {K : PySem.W.Frag} {mg : Str → Option Value} {base : Heap} {N ps : List Str} {name qual : Str} {st : Stmt} {f D c cc : Addr} {fd : FuncData} {k : Nat} {sp : Sp} {rest : List Stmt} {xm : Str} {kk : Nat} {p5 p0 p1 p2 p3 p4 : Pos} {ar : Arg}
abbrev supF (name qual : Str) (st : Stmt) (cc c : Addr) : NF := ⟨name, qual, defArgs st, defBody st, defScope st, [("__class__", cc)], c⟩
theorem superOk (Fn : SupFn K P name qual st f fd D c cc) (T : OexC K D) (S : NScope N ps ["__class__"] (defScope st)) (len : ∀ vs H Q E, sp vs H Q E → vs.length = ps.length)
    (hb0 : defBody st = .Expr (.Call (.Attribute (.Call (.Name "super" p0) [] [] p1) "__init__" p2) [.Constant (.str xm) kk p5] [] p3) p4 :: rest)
    (hself : ((defArgs st).posonlyargs ++ (defArgs st).args).head? = some ar) (hps : ps.head? = some ar.arg) (hks : (defScope st).names.lookup ("super" : Str) = some .globalImplicit) (hm : mg "super" = none)
    (hst1 : ∀ env : Env, starEach [.Constant (.str xm) kk p5] env = (false, eval (.Constant (.str xm) kk p5) env) :: starEach [] env) (hsw : ∀ env : Env, swapsWith (.Call (.Attribute (.Call (.Name "super" p0) [] [] p1) "__init__" p2) [.Constant (.str xm) kk p5] [] p3) none p4.line env = pure false)
    (hmc : ∀ env : Env, ∃ pl : Sem Bool, eval (.Call (.Attribute (.Call (.Name "super" p0) [] [] p1) "__init__" p2) [.Constant (.str xm) kk p5] [] p3) env = (do
      let ov ← attributeBase (.Call (.Name "super" p0) [] [] p1) "__init__" env (eval (.Call (.Name "super" p0) [] [] p1) env)
      standAt p2.atName
      let (f, first) ← holding [ov] (getMethod ov "__init__" pl)
      callWith p3 f first (backTo p3 (starEach [.Constant (.str xm) kk p5] env)) []))
    (hrest : ∀ (A : Around) (outer : List Env) (s : Shared) (H : Hp) (vs : List V) (Q : VK) (E : XK), Room k (A.deeper (envF (supF name qual st cc c) f s.heap.objs.size)) → sp vs H Q E →
      ∃ a vs', vs = .ref a :: vs' ∧ H a = some (exo a D none) ∧ ∃ t, PSs (ncx CX0 P w K mg base N (supF name qual st cc c) f A outer s H E) rest t ∧ t { nx := fun _ H' => Q .non H', rt := Q } (startF N vs [some (.ref D)]) H) :
    FnOk P w K mg base CX0 (k + 1) f fd ps sp := by
  refine ⟨len, fun A outer s H args us vs Q E hr e0 hb r hsp => ?_⟩
  obtain ⟨oc, kV, doc, pm, ct, od, an, osl, rfl, lk⟩ := Fn.ex
  obtain ⟨ccl, cdd, fvs, ccs, file, tf, lc, hvs, hfile⟩ := Fn.file
  obtain ⟨cl, cld, csl, lcc⟩ := Fn.cell
  have hl := len _ _ _ _ hsp
  have KX : K.In s.heap := e0.mod.kin.keeps fun b o e => (e0.bs b o e).1
  have lim : s.heap.NoLimit := e0.mod.nolimit.keeps fun b o e => (e0.bs b o e).1
  have hH : H cc = none := (e0.bs _ _ (e0.mod.kin _ _ lcc)).2
  have hCl : CellsAt [("__class__", cc)] ["__class__"] [some (.ref D)] s.heap H := by
    have one : ∀ {y : Str} {c' : Addr}, ([("__class__", cc)] : List (Str × Addr)).lookup y = some c' → y = "__class__" ∧ c' = cc := fun {y c'} h => by
      rw [List.lookup_cons] at h
      cases e : (y == ("__class__" : Str)) with
      | true => rw [e] at h; exact ⟨eq_of_beq e, (Option.some.inj h).symm⟩
      | false => rw [e] at h; cases h
    refine ⟨rfl, fun y c' h => ?_, fun x y c' h1 h2 => ?_, fun i y h => ?_⟩
    · obtain ⟨_, rfl⟩ := one h
      exact ⟨hH, _, _, KX _ _ lcc, rfl⟩
    · rw [(one h1).1, (one h2).1]
    · match i, h with
      | 0, h =>
        cases h
        refine ⟨cc, by simp [List.lookup], fun v hv => ?_⟩
        cases hv
        exact ⟨.ref D, rfl, _, KX _ _ lcc, rfl⟩
  obtain ⟨a, vs', rfl, ha, t, ht, hq⟩ := hrest A outer s H vs Q E (hr.deeper _) hsp
  refine PySem.ks_codeAny_call_defAt hr.depth (KX _ _ lk) rfl lim (PySem.W.codeRec_of KX Fn.cd) rfl hb S.nocell (fun ⟨n, _⟩ hy => S.par n (List.of_mem_zip hy).1) (fun h₁ hns kp => ?_) S.co S.gen S.kind
  have I : Inv (ncx CX0 P w K mg base N (supF name qual st cc c) f A outer s H E) [] (startF N (.ref a :: vs') [some (.ref D)]) H { s with heap := h₁, toks := s.toks + (ps.zip us).length } := inv_startN S hr.hd e0 hl r hCl hns kp
  show PySem.wpAt (model P w) (A.deeper (envF (supF name qual st cc c) f s.heap.objs.size)) (.func (defBody st) (envF (supF name qual st cc c) f s.heap.objs.size)) (execs (defBody st) (envF (supF name qual st cc c) f s.heap.objs.size)) _ _ _
  have KX1 : K.In h₁ := KX.keeps kp
  obtain ⟨t1, ho1⟩ := exo_at I.hok ha
  have hnsL : h₁.Ns s.heap.objs.size fun y => (ps.zip us).reverse.lookup y := hns
  cases r with
  | @cons _ u0 _ ur ra rr =>
  obtain rfl : u0 = Value.ref a := ra
  have hkA : (defScope st).names.lookup ar.arg = some .local := S.par _ (List.mem_of_head? hps)
  have hself' : ((ps.zip (Value.ref a :: ur)).reverse).lookup ar.arg = some (.ref a) := by
    have ndP : ps.Nodup := by
      have q := S.nd.sublist (List.take_sublist (ps.length + (["__class__"] : List Str).length) N)
      rw [S.pre] at q
      exact (List.nodup_append.mp q).1
    refine zip_look (i := 0) ndP ?_ rfl
    rw [← hps, List.head?_eq_getElem?]
  have hkc : (defScope st).names.lookup ("__class__" : Str) = some .free := S.frk _ (List.mem_singleton.mpr rfl)
  obtain ⟨oD, hD1, cdD, hD2, hcD⟩ : ∃ oD, h₁.get? D = some oD ∧ ∃ cd, oD.data = .cls cd ∧ PySem.W.clsIn K D = some cd := by
    obtain ⟨nm, q, N', bs, bm, sn, sub, ab, col, dd, k0, k1, k2, k3, k5, hC, hbm⟩ := T.cls
    refine ⟨_, KX1 _ _ hC, _, rfl, ?_⟩
    unfold PySem.W.clsIn
    rw [hC]
  have hex : execs (defBody st) (envF (supF name qual st cc c) f s.heap.objs.size) = execs (.Expr (.Call (.Attribute (.Call (.Name "super" p0) [] [] p1) "__init__" p2) [.Constant (.str xm) kk p5] [] p3) p4 :: rest) (envF (supF name qual st cc c) f s.heap.objs.size) := congrArg (fun b => execs b (envF (supF name qual st cc c) f s.heap.objs.size)) hb0
  rw [hex]
  have hin : interactive (envF (supF name qual st cc c) f s.heap.objs.size) = false := by
    have hk : (envF (supF name qual st cc c) f s.heap.objs.size).scope.kind = .function := S.kind
    unfold interactive
    rw [hk]
    rfl
  obtain ⟨pl, he⟩ := hmc (envF (supF name qual st cc c) f s.heap.objs.size)
  obtain ⟨mb, hb1, hb2⟩ := I.mod.blt
  have haD : a ≠ D := fun z => by
    obtain ⟨nm, q, N', bs, bm, sn, sub, ab, col, dd, k0, k1, k2, k3, k5, hC, hbm⟩ := T.cls
    rw [z, (e0.bs _ _ (e0.mod.kin _ _ hC)).2] at ha
    cases ha
  have hsup : PySem.W.alongIn K "__init__" ((cdD.mro.dropWhile (· != .ref D)).drop 1) = some (some (.builtin "ValueError.__init__")) := by
    have q := Fn.sup
    unfold PySem.W.ks_superIn at q
    rw [hcD] at q
    exact q
  refine PySem.ks_wpAt_execs_cons (PySem.ks_wpAt_Expr_any (PySem.ks_wpAt_MethodCall ?_ he) hin (hsw _))
  refine PySem.ks_wpAt_super_base (env := envF (supF name qual st cc c) f s.heap.objs.size) hks hkc (by decide) rfl (KX1 _ _ lk) rfl hself rfl (KX1 _ _ lc) rfl hvs hfile Fn.top ?_
  refine PySem.W.ks_loadName_global S.kind hks (Calls.loadGlobal_builtin (I.mod.glob.keeps I.bk) hm (hb1.keeps I.bk) ((hb2 _ (by decide)).trans (by decide +kernel)) ⟨rfl, ?_⟩)
  refine wpAny_loadName_free (env := envF (supF name qual st cc c) f s.heap.objs.size) S.kind hkc rfl ⟨_, KX1 _ _ lcc, rfl⟩ ?_
  refine wpAny_loadName_local (env := envF (supF name qual st cc c) f s.heap.objs.size) S.kind hkA hnsL hself' ?_
  refine PySem.ks_wpAny_isType_cls hD1 hD2 ⟨rfl, ?_⟩
  refine PySem.ks_wpAny_call_super hD1 hD2 ho1 rfl (fun c e => by cases e) (PySem.W.looks_mroIn KX1 Fn.sub) (fun h2 e2 kp2 => ?_)
  have J := I.kept (t' := s.toks + (ps.zip (Value.ref a :: ur)).length) kp2
  have KX2 := KX1.keeps kp2
  have at2 : PySem.W.InstAt h2 a _ D none := ⟨kp2 _ _ ho1, rfl, rfl, trivial⟩
  refine PySem.W.kxs_getMethod PySem.W.kxs_ValueError e2 (PySem.W.looks_opaque KX2 Fn.opq) (l₀ := cdD.mro) (fun A Q E s k q => wpAny_bind ((PySem.W.looks_clsIn KX2 hcD) A _ E s k (wpAny_pure q))) rfl KX2 hsup (at2.type.andThen (PySem.W.looks_subIn KX2 Fn.ve)) haD (by decide) ?_
  have kp3 : ∀ b o, h2.get? b = some o → (h2.push (PySem.W.kxs_mw "ValueError.__init__" a)).get? b = some o := fun b o e => Heap.get?_push_of_some _ e
  have hmw : (h2.push (PySem.W.kxs_mw "ValueError.__init__" a)).get? h2.objs.size = some (PySem.W.kxs_mw "ValueError.__init__" a) := Heap.get?_push_at rfl rfl
  have J3 := J.kept (t' := s.toks + (ps.zip (Value.ref a :: ur)).length + 1) kp3
  rw [hst1]
  refine PySem.W.kxs_callWith (i := "ValueError.__init__") (x := a) rfl (Calls.evalArgs_plain (Calls.spliced_cons (Calls.Constant_str (k := kk) (pos := p5) (Calls.spliced_nil ⟨hmw, ?_⟩))))
  refine mw_init (X := ncx CX0 P w K mg base N (supF name qual st cc c) f A outer s H E) T (J3.tok _) ha hmw (by show 1 ≤ sizeLine; decide) fun s4 J4 => ?_
  refine wpAt_of_wpAny (wpAny_mono (ht.run [] s4 _ H _ J4 hq) (fun fl s' hs => ?_) fun e s' hs => hs)
  have fin : ∀ {σ' : L2.St} {H' : Hp} {v : V} {u : Value}, Inv (ncx CX0 P w K mg base N (supF name qual st cc c) f A outer s H E) [] σ' H' s' → L2.RelV v u → Q v H' → CE outer P w H s Q u s' :=
    fun {σ' H' v u} J rv q => ⟨v, H', J.os, J.bare, J.base, J.hok, rv, q⟩
  cases fl with
  | ret u =>
    obtain ⟨v, σ', H', J, rv, q⟩ := hs
    exact fin J rv q
  | next =>
    obtain ⟨σ', H', J, q⟩ := hs
    exact fin (v := V.non) (u := Value.none) J rfl q
  | brk =>
    obtain ⟨_, _, _, q⟩ := hs
    exact False.elim q
  | cont =>
    obtain ⟨_, _, _, q⟩ := hs
    exact False.elim q
end
end Way

/-! own exceptions as values -/
namespace Way
open PySem PySem.Spec PyProof.Rows L2
/-- C(e, ..) as a value: C's own __init__ keeps sp -/
def tMkX (C : Addr) (sp : Sp) (dvs : List V) (E : XK) (ta : TA) : TE := fun σ H Q => ta σ H fun vs H1 => vs.length ≤ 1000 ∧ ∀ a, H1 a = none → sp (.ref a :: (vs ++ dvs)) (upd H1 a (exo a C none)) (fun v H2 => v = .non ∧ Q (.ref a) H2) E
section
variable {X : Cx} {e : Expr} {es : List Expr} {ta : TA} {p pos : Pos}
theorem pe_mkX {CX : CXT} {x : Str} {C fI : Addr} {k : Nat} {fd : FuncData} {ps : List Str} {sp : Sp} {ds : List Value} {dvs : List V} {E : XK} (T : OexC X.K C) (iC : PySem.W.findIn X.K (.ref C) "__init__" = some (some (.ref fI))) (tI : PySem.W.typeIn X.K (.ref fI) = some (.type "function"))
    (F1 : FnOk X.prog X.w X.K X.mg X.base CX k fI fd ps sp) (hr : Room (k + 1) X.A) (hb : Binds X.K fd ps ds) (hd : Vals dvs ds) (hx : Passes CX X E) (hg : Gl X x) (hm : X.mg x = some (.ref C)) (ha : PA X (e :: es) ta)
    (hdb : (x == ("__debug__" : Str)) = false := by decide) (he : starEach (e :: es) X.env = (false, eval e X.env) :: starEach es X.env := by rfl) (hpl : (backTo pos (starEach es X.env)).any (·.1) = false := by rfl) :
    PE X (.Call (.Name x p) (e :: es) [] pos) (tMkX C sp dvs E ta) := by
  refine ⟨fun pins s σ H Q I h => ?_⟩
  obtain ⟨nm, q, N, bs, bm, sn, sub, ab, col, dd, k0, k1, k2, k3, k5, hC, hbm⟩ := T.cls
  refine wpAny_Call_Name_kw (ld_glob I hg hm ?_ hdb)
  refine PySem.W.callWith_K (h₀ := X.base) I.ok.mod.kin T.kC (thn (ha.run pos pins s σ H _ I h) fun us s1 ⟨vs, H1, I1, r1, hz, q1⟩ => ⟨I1.kIn, ?_⟩) he hpl
  show wpAny _ _ (call (.ref C) us) _ _ _
  obtain ⟨hp, g, dr, tk, os⟩ := s1
  have hsz : hp.objs.size ≤ hp.objs.size + 1 := Nat.le_succ _
  have hn : H1 (hp.objs.size + 1) = none := I1.hok.fresh hsz
  have hq := q1 (hp.objs.size + 1) hn
  have kk : ∀ b o, hp.get? b = some o → ((hp.push (PySem.W.kdv_tup us)).push (PySem.HandSPX.excO C hp.objs.size)).get? b = some o := fun b o e => Heap.get?_push_of_some _ (Heap.get?_push_of_some _ e)
  have hget : ((hp.push (PySem.W.kdv_tup us)).push (PySem.HandSPX.excO C hp.objs.size)).get? (hp.objs.size + 1) = some (PySem.HandSPX.excO C hp.objs.size) := by heap_get
  have I2 : Inv X pins σ (upd H1 (hp.objs.size + 1) (exo (hp.objs.size + 1) C none)) ⟨(hp.push (PySem.W.kdv_tup us)).push (PySem.HandSPX.excO C hp.objs.size), g, dr, tk, os⟩ :=
    I1.laid (t' := tk) (a := hp.objs.size + 1) (o := exo (hp.objs.size + 1) C none) (h' := (hp.push (PySem.W.kdv_tup us)).push (PySem.HandSPX.excO C hp.objs.size)) kk hsz (exo_ok hget)
  have r2 : Vals (V.ref (hp.objs.size + 1) :: (vs ++ dvs)) (Value.ref (hp.objs.size + 1) :: (us ++ ds)) := .cons rfl (r1.append hd)
  have hl : (Value.ref (hp.objs.size + 1) :: us ++ ds).length = ps.length := by
    have e := r2.length
    rw [F1.len _ _ _ _ hq] at e
    exact e.symm
  have hus : us.length ≤ sizeLine := by
    rw [← Paired.length r1, sizeLine_eq]
    omega
  refine wpAny_call (PySem.HandSPX.call_own F.excBase_ValueError (fun Y => PySem.HandSPX.refsVE_contains Y bm hbm) (I1.kIn _ _ hC) (PySem.W.looks_findIn I1.kIn iC) (fun self => PySem.W.bind_fn I1.kIn self tI) hus
    (codeAny_mono (F1.run _ X.stack _ _ ⟨Value.ref (hp.objs.size + 1) :: us, []⟩ (Value.ref (hp.objs.size + 1) :: (us ++ ds)) _ _ E (hr.make C us []) (I2.env0.make C us []) (hb _ (Value.ref (hp.objs.size + 1) :: us) I2.kIn hl) r2 hq) fun r s' hq' => ?_))
  cases r with
  | error er => exact hx pins σ _ _ er s' I2 hq'
  | ok fl =>
    cases fl with
    | ret u =>
      obtain ⟨v, H', I3, rv, ev, q3⟩ := I2.after hq'
      subst ev
      exact ⟨rv, ⟨V.ref (hp.objs.size + 1), H', I3, rfl, q3⟩⟩
    | next => exact False.elim hq'
    | brk => exact False.elim hq'
    | cont => exact False.elim hq'
/-- e.f of such an exception -/
def tXv (K : PySem.W.Frag) (f : Str) (te : TE) : TE := fun σ H Q => te σ H fun x H1 => ∃ (a C dx : Addr) (fs : List (Str × V)) (v : V), x = .ref a ∧ XfC K C ∧ PySem.W.findIn K (.ref C) f = some none ∧ H1 a = some (exo a C (some dx)) ∧ H1 dx = some (exd dx fs) ∧ fs.lookup f = some v ∧ Q v H1
theorem pe_xv {o : Expr} {te : TE} {n : Str} (ho : PE X o te) (hb : attributeBase o n X.env (eval o X.env) = eval o X.env := by rfl) : PE X (.Attribute o n pos) (tXv X.K n te) := by
  refine ⟨fun pins s σ H Q I h => ?_⟩
  refine attr_of hb (thn (ho.run pins s σ H _ I h) fun u s1 hh => ?_)
  obtain ⟨x, H1, I1, rx, a, C, dx, fs, v, ex, T, hno, ea, ed, l, q⟩ := hh
  subst ex
  obtain rfl : u = Value.ref a := rx
  obtain ⟨t1, ho1⟩ := exo_at I1.hok ea
  obtain ⟨mA, hns, hr⟩ := exd_at I1.hok ed
  obtain ⟨od, hod, hl⟩ := lookIn_ns hns
  obtain ⟨u, hu, ru⟩ := RelO.some_of (v := v) (o := mA n) (by rw [← l]; exact hr n)
  have J : PySem.W.InstAt s1.heap a _ C (some od) := ⟨ho1, rfl, rfl, hod⟩
  exact HandSPX.exc_get I1.kIn J T.ga T.gg T.exC (PySem.W.findObj_own T.hdC hno rfl (by rw [hl, hu])) (handed_of ru) ⟨v, H1, I1.tok _, ru, q⟩
/-- isinstance(e, c), e an own exception as a value -/
def rIsX (K : PySem.W.Frag) : List V → Hp → VK → Prop := fun xs H Q => ∃ (a D : Addr) (d : Option Addr) (c : V) (cv : Value) (b : Bool), xs = [.ref a, c] ∧ H a = some (exo a D d) ∧ (∀ dx, d = some dx → ∃ fs, H dx = some (exd dx fs)) ∧ ExcC K D ∧ ClsV c cv ∧ PySem.W.kitOne K (.ref D) cv = some b ∧ Q (.bl b) H
theorem call_isX : CallR X (.builtin "isinstance") (rIsX X.K) := by
  intro pins s σ H xs us Q I r h
  obtain ⟨a, D, d, c, cv, b, rfl, ha, hdx, C, k, e, q⟩ := h
  obtain ⟨u1, u2, rfl, r1, r2⟩ := vals2 r
  cases r1
  have e2 := k.eq r2
  subst e2
  obtain ⟨t1, ho⟩ := exo_at I.hok ha
  have J : ∃ od, PySem.W.InstAt s.heap a { cls := .ref D, dict := d, data := .fields #[.ref t1, .none, .none, .none, .bool false, .none] } D od := by
    cases d with
    | none => exact ⟨none, ho, rfl, rfl, trivial⟩
    | some dx =>
      obtain ⟨fs, hf⟩ := hdx dx rfl
      obtain ⟨mA, hns, hr⟩ := exd_at I.hok hf
      obtain ⟨od, hod, hl⟩ := lookIn_ns hns
      exact ⟨some od, ho, rfl, rfl, hod⟩
  obtain ⟨od, J⟩ := J
  have hcl : (PySem.W.clsIn X.K D).isSome = true := by
    obtain ⟨cd, hc, _⟩ := PySem.W.any_some C.hd
    rw [hc]; rfl
  exact PySem.W.kia_one (PySem.W.kitx_exc hcl C.hg C.hk C.hs C.ha C.hn C.ht C.hm) I.kIn J e (fun z => nomatch z) fun tk => ⟨.bl b, H, I.tok tk, rfl, q⟩
/-- X(), an own exception class without own __init__, as a value -/
theorem pe_mkX0 {C : Addr} {bmB : List Value} {B newId initId : String} {x : Str} (F : ExcBaseFacts B newId initId bmB) (q : PySem.W.excIn X.K C bmB newId = true) (gC : X.mg x = some (.ref C)) (kC : PySem.W.keepIn X.K (.ref C) = true) (hg : Gl X x) (hdb : (x == ("__debug__" : Str)) = false := by decide) :
    PE X (.Call (.Name x p) [] [] pos) (fun σ H Q => ∀ a, H a = none → Q (.ref a) (upd H a (exo a C none))) := by
  refine ⟨fun pins s σ H Q I h => ?_⟩
  refine wpAny_Call_Name_kw (ld_glob I hg gC ?_ hdb)
  refine PySem.W.callWith_K0 I.kIn kC ?_
  show wpAny _ _ (call (.ref C) []) _ _ _
  obtain ⟨bm, N, nm, qn, bs, hdct, sn, sub, ab, col, dd, k0, k1, k2, k3, k5, mN, hC, hN, hni, T⟩ := exc_obj I.kIn q
  refine wpAny_call_exc_subT F T hC hN hni (fun h' a hm => ?_) (by show 0 ≤ sizeLine; exact Nat.zero_le _)
  have hn : H a = none := I.hok.gone hm.new
  obtain ⟨t, ht, _, _⟩ := hm.there
  exact ⟨.ref a, upd H a (exo a C none), I.laidN hm.keeps hm.new hn (exo_ok ht), rfl, h a hn⟩
end
end Way

/-! an own exception made by keywords -/
namespace Way
open PySem PySem.Spec PySem.HandSPX PySem.Calls
section
variable {M : Model} {A : Around} {E : Value → Shared → Prop} {h : Heap} {g : Array GenState} {d : Drawn} {t : Nat} {os : OsState}
variable {nm q : Str} {C N : Addr} {bs bm bmB : List Value} {hdct : Bool} {sn : List Str} {sub : List Value} {ab : Bool} {col : Option Bool} {dd : Option Addr} {k0 k1 k2 k3 k5 : Option Value} {B newId initId : String} {kw : List (Str × Value)}
theorem check_new_ownK (F : ExcBaseFacts B newId initId bmB) (hT : ∀ X : String, bm.contains (.type X) = bmB.contains (.type X)) {rest : List Value} {Q : Unit → Shared → Prop}
    (hC : h.get? C = some (excClassObj nm q C N bs bm hdct sn sub ab col dd k0 k1 k2 k3 k5 newId)) (hq : Q () ⟨h, g, d, t, os⟩) : wpAny M A (checkBuiltinCall newId ⟨.ref C :: rest, kw⟩) Q E ⟨h, g, d, t, os⟩ := by
  have hcont : (Value.ref C :: bm).contains (.type B) = true := by rw [List.contains_cons, hT, F.hasB, Bool.or_true]
  have hstar := F.noStar
  simp only [checkBuiltinCall, F.newKind, F.newSplit, F.newRow]
  repeat (first | refine wpAny_loadPart_at hC ?_ | (refine wpAny_isSubtype_exc hC ?_; rw [hcont]) | refine wpAny_staticBase_exc hC ?_ | refine wpAny_madeBy_exc hC ?_ | simp only [bne_self_eq_false, Bool.false_eq_true, if_false] | wp_step)
  exact hq
end
section
variable {prog : Program} {w : World} {A : Around} {E : Value → Shared → Prop} {R : Result → Shared → Prop} {h : Heap} {g : Array GenState} {d : Drawn} {t : Nat} {os : OsState}
variable {nm q : Str} {C N : Addr} {bs bm bmB : List Value} {hdct : Bool} {sn : List Str} {sub : List Value} {ab : Bool} {col : Option Bool} {dd : Option Addr} {k0 k1 k2 k3 k5 : Option Value} {B newId initId : String} {kw : List (Str × Value)}
theorem new_ownK (F : ExcBaseFacts B newId initId bmB) (hT : ∀ X : String, bm.contains (.type X) = bmB.contains (.type X)) {rest : List Value}
    (hC : h.get? C = some (excClassObj nm q C N bs bm hdct sn sub ab col dd k0 k1 k2 k3 k5 newId))
    (hq : R (.ok (.ret (.ref (h.objs.size + 1)))) ⟨(h.push { cls := .type "tuple", data := .seq rest.toArray }).push
      { cls := .ref C, data := .fields #[.ref h.objs.size, .none, .none, .none, .bool false, .none] }, g, d, t, os⟩) (hrest : rest.length ≤ sizeLine) :
    codeAny (model prog w) A (.builtin newId ⟨.ref C :: rest, kw⟩) R ⟨h, g, d, t, os⟩ := by
  have hends := F.ends
  have hcB : (Value.ref C :: bm).contains (.type B) = true := by rw [List.contains_cons, hT, F.hasB, Bool.or_true]
  have hcA : (Value.ref C :: bm).contains (.type "AttributeError") = false := by rw [List.contains_cons, hT, F.noAttr]; rfl
  have hcN : (Value.ref C :: bm).contains (.type "NameError") = false := by rw [List.contains_cons, hT, F.noName]; rfl
  refine codeAny_builtinAt F.entry ?_
  unfold Builtin.«BaseException.__new__»
  refine wpAt_bind ?_
  show wpAt _ _ _ (stack >>= _) _ _ _
  refine wpAt_bind (wpAt_stack fun p below => wpAt_of_wpAny ?_)
  wp_walk
  refine wpAt_of_wpAny ?_
  rw [F.owner]
  repeat (first | with_reducible refine wpAny_madeHere_exc F.canon hC ?_ | with_reducible refine wpAny_loadPart_at hC ?_ | (with_reducible refine wpAny_isSubtype_exc hC ?_; first | rw [hcB] | rw [hcA] | rw [hcN]) | wp_step)
  show R _ _
  rw [Heap.size_push]
  exact hq
theorem type_call_ownK (F : ExcBaseFacts B newId initId bmB) (hT : ∀ X : String, bm.contains (.type X) = bmB.contains (.type X)) {rest : List Value} {fI : Addr} {Q : Fin → Shared → Prop}
    (hC : h.get? C = some (excClassObj nm q C N bs bm hdct sn sub ab col dd k0 k1 k2 k3 k5 newId))
    (hi : W.Looks (model prog w) h (typeLookup (.ref C) "__init__") (some (.ref fI))) (hb : ∀ self, W.Looks (model prog w) h (bindSpecial (.ref fI) self) (.ref fI, [self])) (hrest : rest.length ≤ sizeLine)
    (hq : codeAny (model prog w) A (.call (.ref fI) ⟨.ref (h.objs.size + 1) :: rest, kw⟩)
      (fun r s' => match r with | .ok (.ret v) => v = .none ∧ Q (.done (.ret (.ref (h.objs.size + 1)))) s' | .ok _ => False | .error e => E e s')
      ⟨(h.push (W.kdv_tup rest)).push (excO C h.objs.size), g, d, t, os⟩) :
    wpAny (model prog w) A (Builtin.«type.__call__» ⟨.ref C :: rest, kw⟩) Q E ⟨h, g, d, t, os⟩ := by
  repeat (first | with_reducible refine wpAny_loadPart_at hC ?_ | with_reducible refine wpAny_madeBy_exc hC ?_ | wp_step)
  refine codeAny_call_builtin_code (Code.quiet_builtin _ F.quiet) (check_new_ownK F hT hC ?_)
  refine new_ownK F hT hC ?_ hrest
  show wpAny _ _ _ _ _ _
  have k : ∀ b o, h.get? b = some o → ((h.push (W.kdv_tup rest)).push (excO C h.objs.size)).get? b = some o := fun b o e => Heap.get?_push_of_some _ (Heap.get?_push_of_some _ e)
  have hC₁ := k _ _ hC
  have hget : ((h.push (W.kdv_tup rest)).push (excO C h.objs.size)).get? (h.objs.size + 1) = some (excO C h.objs.size) := by heap_get
  have hcC : (Value.ref C :: bm).contains (.ref C) = true := by simp
  have i1 := hi.keeps k
  have b1 := (hb (.ref (h.objs.size + 1))).keeps k
  unfold isInstance
  repeat (first | with_reducible refine wpAny_loadPart_at hget ?_ | (with_reducible refine wpAny_isSubtype_exc hC₁ ?_; rw [hcC]) | wp_step)
  show wpAny _ _ (typeLookup (.ref C) _) _ _ _
  refine i1.at ?_
  refine wpAny_holding (wpAny_bind (b1.at ?_))
  refine wpAny_bind (wpAny_call (codeAny_mono hq fun r s' z => ?_))
  rcases r with e | (v | _ | _ | _) <;> first | exact z | exact z.elim | skip
  obtain ⟨rfl, z⟩ := z
  first
    | exact wpAny_pure (wpAny_pure z)
    | (wp_walk; exact z)
theorem call_ownK (F : ExcBaseFacts B newId initId bmB) (hT : ∀ X : String, bm.contains (.type X) = bmB.contains (.type X)) {rest : List Value} {fI : Addr}
    (hC : h.get? C = some (excClassObj nm q C N bs bm hdct sn sub ab col dd k0 k1 k2 k3 k5 newId))
    (hi : W.Looks (model prog w) h (typeLookup (.ref C) "__init__") (some (.ref fI))) (hb : ∀ self, W.Looks (model prog w) h (bindSpecial (.ref fI) self) (.ref fI, [self])) (hrest : rest.length ≤ sizeLine)
    (hq : codeAny (model prog w) (A.under (.builtin "type.__call__" ⟨.ref C :: rest, kw⟩)) (.call (.ref fI) ⟨.ref (h.objs.size + 1) :: rest, kw⟩) (W.InitBack (h.objs.size + 1) R)
      ⟨(h.push (W.kdv_tup rest)).push (excO C h.objs.size), g, d, t, os⟩) :
    codeAny (model prog w) A (.call (.ref C) ⟨rest, kw⟩) R ⟨h, g, d, t, os⟩ := by
  have f1 := tc_lookup
  have f2 := tc_bind (.ref C)
  have hTy : (⟨h, g, d, t, os⟩ : Shared).TypeIs (.ref C) "type" := ⟨_, hC, rfl⟩
  refine codeAny_of_tree ?_
  show wpAny _ _ (callAny (.ref C) _) _ _ _
  repeat (any_goals (first | assumption | with_reducible refine wpAny_loadPart_at hC ?_ | wp_step))
  refine ⟨rfl, ?_⟩
  refine codeAny_call_builtin_at (Code.quiet_builtin _ (by decide +kernel)) entry_typeCall (wpAny_check_type_call_sub hC (type_call_ownK F hT hC hi hb hrest ?_))
  refine codeAny_mono hq fun r s' z => ?_
  rcases r with e | (v | _ | _ | _) <;> exact z
end
end Way

namespace Way
open PySem PySem.Spec PyProof.Rows L2
/-- C(k = v, ..) as a value, C an own exception class with its own __init__ -/
def tMkXK (C : Addr) (m : Nat) (sp : Sp) (gV : List V → List V → List V) (E : XK) (tk : TA) : TE := fun σ H Q => tk σ H fun zs H1 => zs.length = m ∧ ∀ a, H1 a = none → sp (gV [.ref a] zs) (upd H1 a (exo a C none)) (fun v H2 => v = .non ∧ Q (.ref a) H2) E
theorem pe_mkXK0 {X : Cx} {kws : List Keyword} {tk : TA} {p pos : Pos} {CX : CXT} {x : Str} {C fI : Addr} {k : Nat} {fd : FuncData} {ps ks : List Str} {sp : Sp} {E : XK} {g : List Value → List Value → List Value} {gV : List V → List V → List V} (T : OexC X.K C) (iC : PySem.W.findIn X.K (.ref C) "__init__" = some (some (.ref fI))) (tI : PySem.W.typeIn X.K (.ref fI) = some (.type "function"))
    (F1 : FnOk X.prog X.w X.K X.mg X.base CX k fI fd ps sp) (hr : Room (k + 1) X.A) (hb : KBn X.K fd ps 1 ks g gV) (hx : Passes CX X E) (hg : Gl X x) (hm : X.mg x = some (.ref C)) (hkw : PK X kws tk)
    (hall : (backToKw pos (keywordEach kws X.env)).all (·.1.isSome) = true := by rfl) (hks : (backToKw pos (keywordEach kws X.env)).filterMap (·.1) = ks := by rfl) (hdb : (x == ("__debug__" : Str)) = false := by decide)
    (hpl : ((backTo pos (starEach [] X.env)).any (·.1) || (backToKw pos (keywordEach kws X.env)).any (·.1.isNone)) = false := by rfl) :
    PE X (.Call (.Name x p) [] kws pos) (tMkXK C ks.length sp gV E tk) := by
  refine ⟨fun pins s σ H Q I h => ?_⟩
  obtain ⟨nm, q, N, bs, bm, sn, sub, ab, col, dd, k0, k1, k2, k3, k5, hC, hbm⟩ := T.cls
  refine wpAny_Call_Name_kw (ld_glob I hg hm ?_ hdb)
  refine PySem.W.callWith_KW0 (h₀ := X.base) I.ok.mod.kin T.kC hall ?_ hpl
  refine thn (hkw.run pos pins s σ H _ I h) fun ws s1 ⟨zs, H1, I1, rz, l2, q1⟩ => ⟨I1.kIn, ?_⟩
  rw [hks]
  obtain ⟨hp, gg, dr, tk', os⟩ := s1
  have hsz : hp.objs.size ≤ hp.objs.size + 1 := Nat.le_succ _
  have hn : H1 (hp.objs.size + 1) = none := I1.hok.fresh hsz
  have hq := q1 (hp.objs.size + 1) hn
  have kk : ∀ b o, hp.get? b = some o → ((hp.push (PySem.W.kdv_tup [])).push (PySem.HandSPX.excO C hp.objs.size)).get? b = some o := fun b o e => Heap.get?_push_of_some _ (Heap.get?_push_of_some _ e)
  have hget : ((hp.push (PySem.W.kdv_tup [])).push (PySem.HandSPX.excO C hp.objs.size)).get? (hp.objs.size + 1) = some (PySem.HandSPX.excO C hp.objs.size) := by heap_get
  have I2 : Inv X pins σ (upd H1 (hp.objs.size + 1) (exo (hp.objs.size + 1) C none)) ⟨(hp.push (PySem.W.kdv_tup [])).push (PySem.HandSPX.excO C hp.objs.size), gg, dr, tk', os⟩ :=
    I1.laid (t' := tk') (a := hp.objs.size + 1) (o := exo (hp.objs.size + 1) C none) (h' := (hp.push (PySem.W.kdv_tup [])).push (PySem.HandSPX.excO C hp.objs.size)) kk hsz (exo_ok hget)
  have r1 : Vals [V.ref (hp.objs.size + 1)] [Value.ref (hp.objs.size + 1)] := .cons rfl .nil
  have r2 := hb.rel r1 rz
  refine wpAny_call (call_ownK F.excBase_ValueError (fun Y => PySem.HandSPX.refsVE_contains Y bm hbm) (I1.kIn _ _ hC) (PySem.W.looks_findIn I1.kIn iC) (fun self => PySem.W.bind_fn I1.kIn self tI) (rest := []) (by show 0 ≤ sizeLine; exact Nat.zero_le _)
    (codeAny_mono (F1.run _ X.stack _ _ ⟨[Value.ref (hp.objs.size + 1)], ks.zip ws⟩ (g [Value.ref (hp.objs.size + 1)] ws) _ _ E (hr.make C [] (ks.zip ws)) (I2.env0.make C [] (ks.zip ws)) (hb.to _ [Value.ref (hp.objs.size + 1)] ws I2.kIn rfl (rz.length.symm.trans l2)) r2 hq) fun r s' hq' => ?_))
  cases r with
  | error er => exact hx pins σ _ _ er s' I2 hq'
  | ok fl =>
    cases fl with
    | ret u =>
      obtain ⟨v, H', I3, rv, ev, q3⟩ := I2.after hq'
      subst ev
      exact ⟨rv, ⟨V.ref (hp.objs.size + 1), H', I3, rfl, q3⟩⟩
    | next => exact False.elim hq'
    | brk => exact False.elim hq'
    | cont => exact False.elim hq'
end Way

/-! own exception classes over one own root class over ValueError -/
namespace Way
open PySem PySem.Spec PyProof.Rows L2
abbrev veT : List Value := [.type "ValueError", .type "Exception", .type "BaseException", .type "object"]
/-- the class object: its name, its mro behind itself, its namespace -/
def XLk (K : PySem.W.Frag) (nm : Str) (C N : Addr) (bm : List Value) : Prop :=
  ∃ q bs sn sub ab col dd k0 k1 k2 k3 k5, K.lookup C = some (excClassObj nm q C N bs bm true sn sub ab col dd k0 k1 k2 k3 k5 "ValueError.__new__")
structure XRoot (K : PySem.W.Frag) (W N : Addr) : Prop where
  lk : XLk K "WayError" W N veT
  ini : PySem.W.nsIn K N "__init__" = some none
structure XCls (K : PySem.W.Frag) (nm : Str) (C N W : Addr) : Prop where
  lk : XLk K nm C N (.ref W :: veT)
  sa : PySem.W.findIn K (.ref C) "__setattr__" = some (some (.builtin "object.__setattr__"))
  ga : PySem.W.findIn K (.ref C) "__getattribute__" = some (some (.builtin "BaseException.__getattribute__"))
  gg : PySem.W.findIn K (.ref C) "__getattr__" = some none
  ha : PySem.W.findIn K (.ref C) "__class__" = some (some (.builtin "object.__class__"))
  kC : PySem.W.keepIn K (.ref C) = true
structure XAll (K : PySem.W.Frag) : Prop where
  hn : PySem.W.specialIn K (.builtin "object.__class__") "__get__" = some (some (.builtin "getset_descriptor.__get__"))
  ht : PySem.W.takesIn K (.builtin "object.__class__") = some true
  opq : PySem.W.nsIn K cStatics "thirdparty.any" = some none
section
variable {K : PySem.W.Frag} {nm nm' : Str} {C D N N' W NW : Addr} {bm bm' : List Value}
theorem XLk.cls (h : XLk K nm C N bm) : ∃ cd, PySem.W.clsIn K C = some cd ∧ cd.mro = .ref C :: bm ∧ cd.hasDict = true ∧ cd.name = nm ∧ cd.ns = N := by
  obtain ⟨q, bs, sn, sub, ab, col, dd, k0, k1, k2, k3, k5, e⟩ := h
  refine ⟨{ name := nm, bases := bs, mro := .ref C :: bm, ns := N, qualname := q, hasDict := true, slotNames := sn, subclasses := sub, abstract := ab, collection := col, hasDel := false }, ?_, rfl, rfl, rfl, rfl⟩
  unfold PySem.W.clsIn
  rw [e]
theorem XLk.ty (h : XLk K nm C N bm) : PySem.W.typeIn K (.ref C) = some (.type "type") := by
  obtain ⟨q, bs, sn, sub, ab, col, dd, k0, k1, k2, k3, k5, e⟩ := h
  show Option.map (fun x => x.cls) (K.lookup C) = _
  rw [e]
  rfl
theorem XLk.sub (h : XLk K nm C N bm) (v : Value) : PySem.W.subIn K (.ref C) v = some ((Value.ref C :: bm).contains v) := by
  obtain ⟨cd, e, m, _⟩ := h.cls
  show PySem.W.mroIn K C v = _
  unfold PySem.W.mroIn
  rw [e, Option.bind_some, m]
  rfl
theorem XLk.ne (h : XLk K nm C N bm) (h' : XLk K nm' D N' bm') (e : nm ≠ nm') : C ≠ D := fun z => by
  obtain ⟨cd, a, _, _, b, _⟩ := h.cls
  obtain ⟨cd', a', _, _, b', _⟩ := h'.cls
  subst z
  rw [a] at a'
  cases a'
  exact e (b.symm.trans b')
theorem XLk.hd (h : XLk K nm C N bm) : PySem.W.hasDictIn K C = true := by
  obtain ⟨cd, e, _, m, _⟩ := h.cls
  unfold PySem.W.hasDictIn
  rw [e]
  exact m
theorem XLk.kit (h : XLk K nm C N bm) (h' : XLk K nm' D N' bm') : PySem.W.kitCls K (.ref C) (.ref D) = some ((Value.ref C :: bm).contains (.ref D)) := by
  obtain ⟨cd, e, _⟩ := h'.cls
  show (if ((PySem.W.clsIn K D).isSome && PySem.W.typeIn K (.ref D) == some (.type "type")) = true then PySem.W.subIn K (.ref C) (.ref D) else none) = _
  rw [e, h'.ty, h.sub]
  rfl
theorem XLk.one (h : XLk K nm C N bm) (h' : XLk K nm' D N' bm') : PySem.W.kitOne K (.ref C) (.ref D) = some ((Value.ref C :: bm).contains (.ref D)) := by
  unfold PySem.W.kitOne
  split
  · rename_i z
    have z' := beq_iff_eq.mp z
    rw [← z']
    simp
  · exact h.kit h'
theorem XLk.oneT (h : XLk K nm C N bm) {T : String} (m : PySem.W.kitMeta T = true) : PySem.W.kitOne K (.ref C) (.type T) = some ((Value.ref C :: bm).contains (.type T)) := by
  unfold PySem.W.kitOne
  rw [if_neg (by intro z; cases beq_iff_eq.mp z)]
  show (if PySem.W.kitMeta T = true then PySem.W.subIn K (.ref C) (.type T) else none) = _
  rw [if_pos m, h.sub]
theorem veT_sub {T : String} (h : veT.contains (.type T) = true) : (Value.ref C :: .ref W :: veT).contains (.type T) = true := by
  rw [List.contains_cons, List.contains_cons, h]; simp
theorem XLk.exm (h : XLk K nm C N bm) (h' : XLk K nm' D N' bm') (b : (Value.ref D :: bm').contains (.type "BaseException") = true) : PySem.W.exmOne K (.ref C) (.ref D) = some ((Value.ref C :: bm).contains (.ref D)) := by
  unfold PySem.W.exmOne
  rw [h'.sub, b, if_pos (by rfl), h.kit h']
theorem XCls.exmSelf (h : XCls K nm C N W) : PySem.W.exmOne K (.ref C) (.ref C) = some true := by
  rw [h.lk.exm h.lk (veT_sub (by decide +kernel))]
  simp
theorem XCls.exmRoot (h : XCls K nm C N W) (r : XRoot K W NW) : PySem.W.exmOne K (.ref C) (.ref W) = some true := by
  rw [h.lk.exm r.lk (by rw [List.contains_cons, show veT.contains (.type "BaseException") = true by decide +kernel]; simp)]
  simp
theorem XCls.exmOther (h : XCls K nm C N W) (h' : XCls K nm' D N' W) (r : XRoot K W NW) (e : nm ≠ nm') (e' : nm' ≠ "WayError") : PySem.W.exmOne K (.ref C) (.ref D) = some false := by
  rw [h.lk.exm h'.lk (veT_sub (by decide +kernel))]
  have n1 := h.lk.ne h'.lk e
  have n2 := h'.lk.ne r.lk e'
  simp [Ne.symm n1, n2]
theorem XCls.kitRoot (h : XCls K nm C N W) (r : XRoot K W NW) : PySem.W.kitOne K (.ref C) (.ref W) = some true := by
  rw [h.lk.one r.lk]; simp
theorem XCls.kitVE (h : XCls K nm C N W) : PySem.W.kitOne K (.ref C) (.type "ValueError") = some true := by
  rw [h.lk.oneT (by decide +kernel), veT_sub (by decide +kernel)]
theorem XCls.kitSelf (h : XCls K nm C N W) : PySem.W.kitOne K (.ref C) (.ref C) = some true := by
  rw [h.lk.one h.lk]; simp
theorem XCls.kitOther (h : XCls K nm C N W) (h' : XCls K nm' D N' W) (r : XRoot K W NW) (e : nm ≠ nm') (e' : nm' ≠ "WayError") : PySem.W.kitOne K (.ref C) (.ref D) = some false := by
  rw [h.lk.one h'.lk]
  have n1 := h.lk.ne h'.lk e
  have n2 := h'.lk.ne r.lk e'
  simp [Ne.symm n1, n2]
theorem XCls.oex (h : XCls K nm C N W) : OexC K C := by
  refine ⟨?_, h.sa, (h.lk.sub _).trans (by rw [veT_sub (by decide +kernel)]), h.lk.ty, h.kC⟩
  obtain ⟨q, bs, sn, sub, ab, col, dd, k0, k1, k2, k3, k5, e⟩ := h.lk
  exact ⟨_, _, _, _, _, _, _, _, _, _, _, _, _, _, _, e, rfl⟩
theorem XCls.xf (h : XCls K nm C N W) : XfC K C := ⟨h.ga, h.gg, (h.lk.sub _).trans (by rw [veT_sub (by decide +kernel)]), h.lk.hd⟩
theorem XCls.ex (h : XCls K nm C N W) (a : XAll K) : ExcC K C :=
  ⟨h.ga, h.gg, (h.lk.sub _).trans (by rw [veT_sub (by decide +kernel)]), h.lk.hd, h.ha, a.hn, a.ht, (h.lk.sub _).trans (by rw [veT_sub (by decide +kernel)])⟩
theorem XCls.sup (h : XCls K nm C N W) (r : XRoot K W NW) : PySem.W.ks_superIn K C C "__init__" = some (some (.builtin "ValueError.__init__")) := by
  obtain ⟨cd, e, m, _⟩ := h.lk.cls
  obtain ⟨cw, ew, mw, _, _, nw⟩ := r.lk.cls
  have e1 : ((Value.ref C :: Value.ref W :: veT).dropWhile (· != .ref C)).drop 1 = Value.ref W :: veT := by simp [List.dropWhile_cons]
  unfold PySem.W.ks_superIn
  rw [e, Option.bind_some, m, e1]
  have e2 : PySem.W.ownIn K "__init__" (.ref W) = some none := by
    have q := r.ini
    rw [← nw] at q
    unfold PySem.W.clsIn at ew
    split at ew
    · rename_i z
      cases ew
      show (match K.lookup W with | some ⟨_, _, .cls cd, _⟩ => PySem.W.nsIn K cd.ns "__init__" | _ => none) = _
      rw [z]
      exact q
    · cases ew
  show (match PySem.W.ownIn K "__init__" (.ref W) with | some (some v) => some (some v) | some none => PySem.W.alongIn K "__init__" veT | none => none) = _
  rw [e2]
  kernel_rfl
theorem XCls.supFn {prog : Program} {name qual : Str} {st : Stmt} {f c cc : Addr} {fd : FuncData} (h : XCls K nm C N W) (r : XRoot K W NW) (a : XAll K)
    (ex : ∃ (oc kV doc pm ct : Value) (od an : Option Addr) (osl : Array (Option Value)), fd = PySem.W.fnX name qual (defArgs st) (defBody st) (defScope st) [("__class__", cc)] .none kV doc pm an (.ref c) ct ∧ K.lookup f = some ⟨oc, od, .func fd, osl⟩)
    (cd : PySem.W.codeIn K (.ref c) qual = true)
    (file : ∃ (ccl : Value) (cdd : Option Addr) (vs : Array Value) (ccs : Array (Option Value)) (file : Str) (tf : Tok), K.lookup c = some ⟨ccl, cdd, .fields vs, ccs⟩ ∧ vs[2]? = some (.str file tf) ∧ ((prog.main.file : Str) == file) = true)
    (cell : ∃ (cl : Value) (cld : Option Addr) (csl : Array (Option Value)), K.lookup cc = some ⟨cl, cld, .cell (some (.ref C)), csl⟩) (top : (prog.main.scope.names.lookup ("super" : Str)).isSome = false) : SupFn K prog name qual st f fd C c cc :=
  ⟨ex, cd, file, cell, (h.lk.sub _).trans (by simp), a.opq, h.sup r, (h.lk.sub _).trans (by rw [veT_sub (by decide +kernel)]), top⟩
end
/-! inits that keep what they are given -/
def spX1 (C : Addr) (f : Str) : Sp := fun vs H Q _ => ∃ a v, vs = [.ref a, v] ∧ H a = some (exo a C none) ∧ ∀ dx, H dx = none → dx ≠ a → Q .non (upd (upd H dx (exd dx [(f, v)])) a (exo a C (some dx)))
def spX2 (C : Addr) (f g : Str) : Sp := fun vs H Q _ => ∃ a v w, vs = [.ref a, v, w] ∧ H a = some (exo a C none) ∧ ∀ dx, H dx = none → dx ≠ a → Q .non (upd (upd (upd H dx (exd dx [(f, v)])) a (exo a C (some dx))) dx (exd dx [(g, w), (f, v)]))
section
variable {K : PySem.W.Frag} {C : Addr} {f g : Str} {H : Hp} {a : Addr} {v w : V} {Q : VK} {z : Option V}
theorem init1 (T : OexC K C) (hno : PySem.W.findIn K (.ref C) f = some none) (ha : H a = some (exo a C none)) (k : ∀ dx, H dx = none → dx ≠ a → Q .non (upd (upd H dx (exd dx [(f, v)])) a (exo a C (some dx)))) {ct bk : L2.St → Hp → Prop} :
    tOst K f (tVar 0) (tVar 1) { nx := fun _ H' => Q .non H', rt := Q, bk := bk, ct := ct } [some (.ref a), some v, z] H :=
  ⟨_, rfl, _, rfl, a, C, rfl, T, hno, .inl ⟨ha, k⟩⟩
end
end Way

/-! an own __iter__ that says: return iter(self.f), f a tuple -/
namespace Way
open PySem PySem.Spec PyProof.Rows L2
abbrev titObj (t : Addr) (i : Nat) : Obj := { cls := .type "tuple_iterator", data := .fields #[.ref t, .int i 0] }
theorem call_iterT {prog : Program} {w : World} {A : Around} {E : Value → Shared → Prop} {s : Shared} {t : Addr} {items : Array Value} {Q : Value → Shared → Prop} (ht : s.heap.IsTuple t items) (h : Q (.ref s.heap.objs.size) { s with heap := s.heap.push (titObj t 0) }) :
    wpAny (model prog w) A (call (.builtin "iter") [.ref t]) Q E s := by
  refine Calls.call_function_entry (by decide +kernel) (by decide +kernel) PySem.W.kdk_entry_iter (PySem.W.kdk_args_iter _) ?_
  unfold Builtin.«iter»
  refine wpAny_bind (m := someArgs "iter" 1 2 _) (wpAny_of_eq (a := [Value.ref t]) (by first | rfl | kernel_rfl!) ?_)
  show wpAny _ _ (pyIter (.ref t) >>= _) _ _ _
  refine wpAny_bind (wpAny_pyIter_tuple ht ?_)
  exact wpAny_pure ⟨_, rfl, h⟩
/-- what the def at f promises: a new iterator over the tuple -/
def ItFn (P : Program) (w : World) (K : PySem.W.Frag) (mg : Str → Option Value) (base : Heap) (k : Nat) (f C : Addr) (fld : Str) : Prop :=
  ∀ (A : Around) (outer : List Env) (s : Shared) (H : Hp) (a dx t : Addr) (fs : List (Str × V)) (xs : List V), Room k A → Env0 P w K mg base A outer s H → H a = some (.ins C dx fs) → fs.lookup fld = some (.ref t) → SqT K H t xs →
    codeAny (model P w) A (.call (.ref f) ⟨[.ref a], []⟩) (fun r s' => ∃ q, r = .ok (.ret (.ref q)) ∧ CE outer P w H s (fun _ H' => H' = H) (.ref q) s' ∧ s.heap.objs.size ≤ q ∧ s'.heap.get? q = some (titObj t 0)) s
theorem itFn_of {P : Program} {w : World} {K : PySem.W.Frag} {mg : Str → Option Value} {base : Heap} {k : Nat} {f C : Addr} {x qual fld : Str} {st : Stmt} {fd : FuncData} {N : List Str} {p1 p2 p3 p4 p5 : Pos} (F : Fun K x qual st f fd) (S : FnScope N ["self"] (defScope st)) (hN : N[0]? = some ("self" : Str))
    (hb : defBody st = [.Return (some (.Call (.Name "iter" p1) [.Attribute (.Name "self" p2) fld p3] [] p4)) p5]) (hk : (defScope st).names.lookup ("iter" : Str) = some .globalImplicit) (hm : mg "iter" = none) (c : Cls K C) (n : NoAttr K C fld) (B : Binds K fd ["self"] []) : ItFn P w K mg base (k + 1) f C fld := by
  intro A outer s H a dx t fs xs hr e0 ha l ht
  obtain ⟨oc, od, kV, doc, pm, an, cdv, ct, osl, rfl, lk, hcd⟩ := F.ex
  have KX : K.In s.heap := e0.mod.kin.keeps fun b o e => (e0.bs b o e).1
  have lim : s.heap.NoLimit := e0.mod.nolimit.keeps fun b o e => (e0.bs b o e).1
  have hkind : ∀ y ∈ (["self"] : List Str).zip [Value.ref a], (defScope st).names.lookup y.1 = some .local ∨ ((defScope st).names.lookup y.1 = some .cell ∧ ((cellsFrom (s.heap.objs.size + 1) (defScope st).names []).lookup y.1).isSome = true) := fun ⟨n, v⟩ hy => by
    rcases S.par n (List.of_mem_zip hy).1 with q | q
    · exact .inl q
    · exact .inr ⟨q, PySem.W.cellsFrom_some _ _ _ (.inl q)⟩
  refine codeAny_call_function hr.depth (KX _ _ lk) rfl S.co S.gen rfl (PySem.W.codeRec_of KX hcd) ((B s [.ref a] KX rfl) _ _ _ _ ?_)
  refine wpAny_newFunctionEnv_cells S.kind hkind fun env he s1 x => ?_
  subst he
  refine ⟨lim.keeps x.toInCall.keep, codeAny_func ?_⟩
  have I0 : Inv (cxOf CX0 P w K mg base N qual (defScope st) f cdv A outer s H (fun _ _ _ => False)) [] (start N [.ref a]) H s1 := inv_start (vs := [.ref a]) (us := [.ref a]) S hr.hd e0 rfl (.cons rfl .nil) x
  have I : Inv (cxOf CX0 P w K mg base N qual (defScope st) f cdv A outer s H (fun _ _ _ => False)).nox [] (start N [.ref a]) H s1 := I0.wish _
  have hs0 : (start N [V.ref a])[0]? = some (some (.ref a)) := by
    cases N with
    | nil => cases hN
    | cons y ys => rfl
  have pself : PE (cxOf CX0 P w K mg base N qual (defScope st) f cdv A outer s H (fun _ _ _ => False)).nox (.Name "self" p2) (tVar 0) := pe_var (i := 0) hN ((S.par "self" (List.Mem.head _)).elim (fun z => .inl z) (fun z => .inr (.inl z)))
  have pf := pe_fld (pos := p3) (f := fld) pself rfl
  show wpAny (model P w) (cxOf CX0 P w K mg base N qual (defScope st) f cdv A outer s H (fun _ _ _ => False)).nox.A (execs (defBody st) (cxOf CX0 P w K mg base N qual (defScope st) f cdv A outer s H (fun _ _ _ => False)).nox.env) _ _ s1
  have hex : execs (defBody st) (cxOf CX0 P w K mg base N qual (defScope st) f cdv A outer s H (fun _ _ _ => False)).nox.env = execs [.Return (some (.Call (.Name "iter" p1) [.Attribute (.Name "self" p2) fld p3] [] p4)) p5] (cxOf CX0 P w K mg base N qual (defScope st) f cdv A outer s H (fun _ _ _ => False)).nox.env := congrArg (fun b => execs b (cxOf CX0 P w K mg base N qual (defScope st) f cdv A outer s H (fun _ _ _ => False)).nox.env) hb
  rw [hex]
  refine wpAny_execs_cons (wpAny_Return_some ?_)
  have hg : Gl (cxOf CX0 P w K mg base N qual (defScope st) f cdv A outer s H (fun _ _ _ => False)).nox "iter" := hk
  refine wpAny_Call_Name_kw (ld_blt I hg hm (by decide +kernel : bootBuiltins "iter" = some (.builtin "iter")) ?_ (by decide) (by decide))
  refine PyProof.Rows.callWith_builtin1 (thnF ((pa_cons pf pa_nil).run p4 [] s1 (start N [.ref a]) H (fun vs H' => vs = [.ref t] ∧ H' = H) I ⟨.ref a, hs0, a, C, dx, fs, .ref t, rfl, ha, c, n, l, rfl, rfl⟩) fun us s2 ⟨vs, H1, I1, r1, e1, e2⟩ => ?_)
  subst e1
  subst e2
  obtain ⟨u, rfl, ru⟩ := vals1 r1
  cases ru
  obtain ⟨its, rv, tp, hz⟩ := I1.tuple ht
  refine call_iterT (show s2.heap.IsTuple t its.toArray from tp) ?_
  have J := I1.kept (t' := s2.toks) (h' := s2.heap.push (titObj t 0)) fun b o e => Heap.get?_push_of_some _ e
  exact ⟨_, rfl, ⟨.ref s2.heap.objs.size, H1, J.os, J.bare, J.base, J.hok, rfl, rfl⟩, I1.sz, Heap.get?_push_size _ rfl⟩
/-- the class has such an __iter__ -/
structure OwnIt (K : PySem.W.Frag) (C f : Addr) : Prop where
  it : PySem.W.findIn K (.ref C) "__iter__" = some (some (.ref f))
  itF : PySem.W.isFn K (.ref f) = true
section
variable {X : Cx} {C f : Addr} {fld : Str} {k : Nat} {A : Around} {pins : List (Addr × Obj)} {σ : L2.St} {H : Hp} {s : Shared}
/-- iter(o) of such an object -/
theorem own_pyIter {E : Value → Shared → Prop} {Q : Value → Shared → Prop} {a dx t : Addr} {fs : List (Str × V)} {xs : List V} (c : OwnIt X.K C f) (F : ItFn X.prog X.w X.K X.mg X.base k f C fld) (sb : Sub X k A) (I : Inv X pins σ H s) (ha : H a = some (.ins C dx fs)) (l : fs.lookup fld = some (.ref t)) (ht : SqT X.K H t xs)
    (h : ∀ q s', Inv X pins σ H s' → s.heap.objs.size ≤ q → H q = none → s'.heap.get? q = some (titObj t 0) → Q (.ref q) s') : wpAny (model X.prog X.w) A (pyIter (.ref a)) Q E s := by
  obtain ⟨mA, J, _⟩ := ins_get I.hok ha
  obtain ⟨od, J, _⟩ := J.look
  obtain ⟨m, hF⟩ := I.fr
  refine PySem.W.owit_iter hF I.ok.mod.kin J c.it c.itF ?_
  have e0 : Env0 X.prog X.w X.K X.mg X.base A X.stack s H := by
    have e := I.env0
    exact ⟨by rw [sb.fr]; exact e.frames, e.mod, e.bs, e.bsz, e.funs, e.frf, e.hok, e.bare⟩
  refine wpAny_call (codeAny_mono (F A X.stack s H a dx t fs xs sb.room e0 ha l ht) fun r s' hq => ?_)
  obtain ⟨q, rfl, ce, hz, hg⟩ := hq
  obtain ⟨v, H', I', rv, eH⟩ := I.after ce
  subst eH
  show PySem.W.OwitIt (model X.prog X.w) A Q E (.ref q) s'
  unfold PySem.W.OwitIt
  have hT : s'.TypeIs (.ref q) "tuple_iterator" := ⟨_, hg, rfl⟩
  exact wpAny_specialOf hT PySem.F.slot_tuple_iterator_next.lookup (h q s' I' hz (I.hok.fresh hz) hg)
/-- for x in o -/
def iOwn (K : PySem.W.Frag) (C : Addr) (fld : Str) (te : TE) : TI := fun σ H R => te σ H fun x H1 => ∃ (a dx t : Addr) (fs : List (Str × V)) (xs : List V), x = .ref a ∧ H1 a = some (.ins C dx fs) ∧ fs.lookup fld = some (.ref t) ∧ SqT K H1 t xs ∧ R (Itt K t) H1
theorem pi_own {tg e : Expr} {te : TE} (he : PE X e te) (c : OwnIt X.K C f) (F : ItFn X.prog X.w X.K X.mg X.base k f C fld) (hr : Room k X.A) : PI X tg e (iOwn X.K C fld te) := by
  refine ⟨fun pins s σ H R I h => ?_⟩
  refine thn (he.run pins s σ H _ I h) fun v s1 ⟨x, H1, I1, r1, a, dx, t, fs, xs, ex, ha, l, ht, q⟩ => ?_
  subst ex
  obtain rfl : v = Value.ref a := r1
  refine own_pyIter c F ⟨hr, rfl⟩ I1 ha l ht fun q0 s2 I2 hz hn hg => ?_
  refine ⟨q0, [q0], _, _, H1, rfl, I2, turn_tuple t _, ⟨_, hg, rfl, rfl⟩, fun b hb => ?_, q⟩
  have e : b = q0 := by simpa using hb
  subst e
  exact I1.fpOk hz hn
end
end Way

/-! statements that are never reached; static methods; classes made with starred arguments -/
namespace Way
open PySem PySem.Spec PyProof.Rows L2
section
variable {X : Cx}
theorem ps_never {st : Stmt} : PS X st (fun _ _ _ => False) := ⟨fun _ _ _ _ _ _ h => h.elim⟩
theorem pss_never {st : List Stmt} : PSs X st (fun _ _ _ => False) := ⟨fun _ _ _ _ _ _ h => h.elim⟩
theorem pe_never {e : Expr} : PE X e (fun _ _ _ => False) := ⟨fun _ _ _ _ _ _ h => h.elim⟩
end
/-- C.m is a staticmethod: its record at p, its def at g -/
structure SMet (K : PySem.W.Frag) (C : Addr) (mc : Value) (m : Str) (p g : Addr) : Prop where
  at_ : PySem.W.findCls K (.ref C) mc m = some (.get (.builtin "staticmethod.__get__") (.ref p) .none (.ref C))
  rc : ∃ rest, PySem.W.recIn K p "staticmethod" = some (.ref g :: rest)
  kp : PySem.W.keepIn K (.ref g) = true
section
variable {X : Cx} {CX : CXT} {k : Nat} {C p g f : Addr} {mc : Value} {sp : Sp} {E : XK} {o e : Expr} {es : List Expr} {m x : Str} {pos apos np sp_ : Pos} {ta te : TE} {t : TA} {pl : Sem Bool} {fd : FuncData} {ps : List Str}
def tSM (C : Addr) (sp : Sp) (E : XK) (ta : TE) : TE := fun σ H Q => ta σ H fun x H1 => x = .ref C ∧ sp [] H1 Q E
theorem pe_smeth0 (he : PE X o ta) (r : ClX.CRead X.K C mc) (c : SMet X.K C mc m p g) (F : FnOk X.prog X.w X.K X.mg X.base CX k g fd ps sp) (hr : Room k X.A) (hb : Binds X.K fd ps []) (hx : Passes CX X E)
    (ht : eval (.Call (.Attribute o m apos) [] [] pos) X.env = (do
      let ov ← eval o X.env
      standAt apos.atName
      let (f, first) ← holding [ov] (getMethod ov m pl)
      callWith pos f first (backTo pos (starEach [] X.env)) (backToKw pos (keywordEach [] X.env))) := by rfl) :
    PE X (.Call (.Attribute o m apos) [] [] pos) (tSM C sp E ta) := by
  refine ⟨fun pins s σ H Q I h => ?_⟩
  refine PySem.W.methodCall_KW (pl := pl) (thn (he.run pins s σ H _ I h) fun u s1 ⟨x, H1, I1, rx, ex, q⟩ => ?_) ht
  subst ex
  obtain rfl : u = Value.ref C := rx
  obtain ⟨rest, hp⟩ := c.rc
  refine PySem.W.method_cls I1.kIn r.ga (PySem.W.cls_bind I1.kIn r.rd c.at_ ?_)
  refine wpAny_call (PySem.W.sm_get (s := { s1 with toks := s1.toks + 1 }) I1.kIn hp (PySem.W.handed_on rfl ?_))
  have I2 := I1.tok (s1.toks + 1)
  exact PySem.W.callWith_K0 (first := []) I2.kIn c.kp (run_fn (us := []) (vs := []) (ds := []) (dvs := []) F hr hb .nil hx I2 .nil q)
/-- C(), by a positional promise -/
theorem pe_makeR0 (M : Mk X.K C f) (F : FnR X.prog X.w X.K X.mg X.base CX k f sp) (hr : Room (k + 1) X.A) (hg : Gl X x) (hm : X.mg x = some (.ref C)) (hx : Passes CX X E) (hdb : (x == ("__debug__" : Str)) = false := by decide) :
    PE X (.Call (.Name x np) [] [] pos) (StX.tMakeR C sp E tNil) := by
  refine ⟨fun pins s σ H Q I h => ?_⟩
  refine wpAny_Call_Name_kw (ld_glob I hg hm ?_ hdb)
  exact PySem.W.callWith_K0 I.kIn M.kp (StX.run_makeR (us := []) M F hr hx I .nil h)
/-- C( *y ) -/
def tMakeS (K : PySem.W.Frag) (C : Addr) (sp : Sp) (E : XK) (te : TE) : TE := fun σ H Q => te σ H fun y H1 => ∃ a xs, y = V.ref a ∧ (SqT K H1 a xs ∨ SqL K H1 a xs) ∧ ∀ x dx, H1 x = Option.none → H1 dx = Option.none → dx ≠ x →
  sp (V.ref x :: xs) (upd (upd H1 dx (.own x)) x (.ins C dx [])) (fun v H2 => v = .non ∧ Q (.ref x) H2) E
theorem pe_makeS (M : Mk X.K C f) (F : FnR X.prog X.w X.K X.mg X.base CX k f sp) (hr : Room (k + 1) X.A) (hg : Gl X x) (hm : X.mg x = some (.ref C)) (hx : Passes CX X E) (he : PE X e te) (hd : (x == ("__debug__" : Str)) = false := by decide)
    (hst : starEach [.Starred e sp_] X.env = [(true, eval e X.env)] := by rfl) : PE X (.Call (.Name x np) [.Starred e sp_] [] pos) (tMakeS X.K C sp E te) := by
  refine ⟨fun pins s σ H Q I h => ?_⟩
  refine wpAny_Call_Name_kw (ld_glob I hg hm ?_ hd)
  refine PySem.W.callWith_S (h₀ := X.base) I.ok.mod.kin M.kp (thn (he.run pins s σ H _ I h) fun v s1 ⟨y, H1, I1, ry, a, xs, ey, hxs, q⟩ => ?_) hst
  subst ey
  obtain rfl : v = Value.ref a := ry
  exact StX.star_any I1 hxs fun us s2 I2 rv => ⟨I2.kIn, StX.run_makeR M F hr hx I2 rv q⟩
end
/-- the promise of a def with a star parameter, of what stands behind the top -/
theorem starOk {P : Program} {w : World} {K : PySem.W.Frag} {mg : Str → Option Value} {base : Heap} {x qual pv : Str} {st : Stmt} {f : Addr} {fd : FuncData} {N ps : List Str} {k : Nat} {sp : Sp} (F : Fun K x qual st f fd) (S : FnScope N (ps ++ [pv]) (defScope st))
    (hb : ∀ (kV doc pm : Value) (an : Option Addr) (cdv ct : Value) (us rest : List Value), us.length = ps.length → bindArgs (PySem.W.fnOf x qual (defArgs st) (defBody st) (defScope st) .none kV doc pm an cdv ct) ⟨us ++ rest, []⟩ = (newTuple rest >>= fun t => pure (ps.zip us ++ [(pv, t)])))
    (hbody : ∀ (cdv : Value) (A : Around) (outer : List Env) (s : Shared) (H : Hp) (vs : List V) (Q : VK) (E : XK), Room k (A.deeper (envOfC qual (defScope st) s.heap.objs.size f cdv)) → sp vs H Q E →
      ∃ t, PSs (cxOf CX0 P w K mg base N qual (defScope st) f cdv A outer s H E).nox (defBody st) t ∧ t { nx := fun _ H' => Q .non H', rt := Q } (start N vs) H) :
    FnR P w K mg base CX0 (k + 1) f (fun vs H Q E => ∃ ws rest, vs = ws ++ rest ∧ ws.length = ps.length ∧ rest.length ≤ sizeLine ∧ ∀ p, H p = Option.none → sp (ws ++ [V.ref p]) (upd H p (.tup rest)) Q E) := by
  obtain ⟨oc, od, kV, doc, pm, an, cdv, ct, osl, rfl, lk, hcd⟩ := F.ex
  exact StX.fn_star lk hcd S StX.cxUp_none (hb kV doc pm an cdv ct) fun A outer s H vs Q E hr hsp => let ⟨t, h1, h2⟩ := hbody cdv A outer s H vs Q E hr hsp; ⟨t, h1.nox, h2⟩
end Way

/-! rules with K apart, for the blocks of comprehensions; == of data inside a builtin; what comprehensions make -/
namespace Way
open PySem PySem.Spec PyProof.Rows L2 Evl
section
variable {X : Cx} {n : Nat} {D D' : EqvB}
theorem RcB.imp (h : RcB X n D') (i : ∀ x y H b, D x y H b → D' x y H b) : RcB X n D := fun A pins s σ H x y u v b sb I rx ry d => h A pins s σ H x y u v b sb I rx ry (i _ _ _ _ d)
/-- two things of data -/
def DDat (K : PySem.W.Frag) : EqvB := fun x y H b => ∃ (a c : Addr) (d e : PyData), x = .ref a ∧ y = .ref c ∧ (∀ H1, Ext H H1 → Dp K H1 x d) ∧ (∀ H1, Ext H H1 → Dp K H1 y e) ∧ SeqAt.shaped d = true ∧ SeqAt.shaped e = true ∧ b = PyData.eqv d e ∧ (a = c → b = true)
theorem mon_dat {K : PySem.W.Frag} : MonB (DDat K) := fun x y H H' b ex ⟨a, c, d, e, h1, h2, h3, h4, h5⟩ => ⟨a, c, d, e, h1, h2, fun H1 e1 => h3 H1 fun a o q => e1 a o (ex a o q), fun H1 e1 => h4 H1 fun a o q => e1 a o (ex a o q), h5⟩
theorem rcB_dat : RcB X n (DDat X.K) := by
  intro A pins s σ H x y u v b sb I rx ry d
  obtain ⟨a, c, d, e, rfl, rfl, h3, h4, s1, s2, rfl, _⟩ := d
  obtain ⟨as, r1⟩ := Dp.reads I d _ u (h3 H fun _ _ q => q) rx
  obtain ⟨bs, r2⟩ := Dp.reads I e _ v (h4 H fun _ _ q => q) ry
  exact SeqAt.compareEq_shaped r1 r2 s1 s2 sb.room.units ⟨rfl, H, I, fun _ _ q => q⟩
theorem eqB_dat : EqB X n (DDat X.K) := rcB_dat.eqB fun x y H b ⟨a, c, d, e, h1, h2, _, _, _, _, _, h⟩ => ⟨a, c, h1, h2, h⟩
theorem kk_inD {K : PySem.W.Frag} (hr : Room 1 X.A) (h : X.K = K := by rfl) : OpR X (compareOp .In) (rInB (DDat K) false) := h ▸ op_inB mon_dat eqB_dat hr
theorem kk_notInD {K : PySem.W.Frag} (hr : Room 1 X.A) (h : X.K = K := by rfl) : OpR X (compareOp .NotIn) (rInB (DDat K) true) := h ▸ op_notInB mon_dat eqB_dat hr
theorem kk_fld {K : PySem.W.Frag} {e : Expr} {f : Str} {pos : Pos} {ta : TE} (he : PE X e ta) (hb : attributeBase e f X.env (eval e X.env) = eval e X.env) (h : X.K = K := by rfl) : PE X (.Attribute e f pos) (tFld K ta f) := h ▸ pe_fld he hb
theorem kk_cval {K : PySem.W.Frag} {e : Expr} {f : Str} {pos : Pos} {ta : TE} (he : PE X e ta) (hb : attributeBase e f X.env (eval e X.env) = eval e X.env := by rfl) (h : X.K = K := by rfl) : PE X (.Attribute e f pos) (ClX.tCVal K ta f) := h ▸ ClX.pe_cval he hb
theorem kk_piL {K : PySem.W.Frag} {tg l : Expr} {tl : TE} (hl : PE X l tl) (h : X.K = K := by rfl) : PI X tg l (iList K tl) := h ▸ pi_list hl
theorem kk_piT {K : PySem.W.Frag} {tg l : Expr} {tl : TE} (hl : PE X l tl) (h : X.K = K := by rfl) : PI X tg l (iTup K tl) := h ▸ pi_tup hl
theorem kk_truth {K : PySem.W.Frag} {a : Expr} {ta : TE} (ha : PE X a ta) (he : ∀ whole, isTrue a X.env whole = (do let v ← whole; standAt a.pos; holding [v] (truthy v)) := by intro _; rfl) (h : X.K = K := by rfl) :
    PT X a (fun σ H Q => ta σ H fun x H' => ∃ k, TruV K x H' k ∧ Q k H') := h ▸ pt_truth ha he
theorem kk_makeS {K : PySem.W.Frag} {CX : CXT} {k : Nat} {f C : Addr} {sp : Sp} {E : XK} {x : Str} {e : Expr} {te : TE} {np sp_ pos : Pos} (M : Mk X.K C f) (F : FnR X.prog X.w X.K X.mg X.base CX k f sp) (hr : Room (k + 1) X.A) (hg : Gl X x) (hm : X.mg x = some (.ref C)) (hx : Passes CX X E) (he : PE X e te) (hd : (x == ("__debug__" : Str)) = false := by decide)
    (hst : starEach [.Starred e sp_] X.env = [(true, eval e X.env)] := by rfl) (h : X.K = K := by rfl) : PE X (.Call (.Name x np) [.Starred e sp_] [] pos) (tMakeS K C sp E te) := h ▸ pe_makeS M F hr hg hm hx he hd hst
theorem kk_neB {K : PySem.W.Frag} {CX : CXT} {f C : Addr} {fd : FuncData} {ps : List Str} {E : XK} {R : Addr → V → Hp → Bool → Prop} (F : FnOk X.prog X.w X.K X.mg X.base CX n f fd ps (spEqB R)) (hm : PySem.W.mroIn X.K C (.type "object") = some true)
    (hs : PySem.W.findIn X.K (.ref C) "__eq__" = some (some (.ref f))) (hne : PySem.W.findIn X.K (.ref C) "__ne__" = some (some (.builtin "object.__ne__"))) (hf : PySem.W.isFn X.K (.ref f) = true) (hb : Binds X.K fd ps []) (hx : Passes CX X E) (hr : Room (n + 1) X.A) (h : X.K = K := by rfl) :
    OpR X (compareOp .NotEq) (rNeB (DOwn K C R)) := h ▸ op_neB F hm hs hne hf hb hx hr
end
/-- what the written part says of a class whose instances are asked for their type, compared, joined -/
structure InsC (K : PySem.W.Frag) (C : Addr) : Prop where
  ha : PySem.W.findIn K (.ref C) "__class__" = some (some (.builtin "object.__class__"))
  hn : PySem.W.specialIn K (.builtin "object.__class__") "__get__" = some (some (.builtin "getset_descriptor.__get__"))
  tk : PySem.W.takesIn K (.builtin "object.__class__") = some true
  mo : PySem.W.mroIn K C (.type "object") = some true
  ne : PySem.W.findIn K (.ref C) "__ne__" = some (some (.builtin "object.__ne__"))
  sf : PySem.W.selfFirst K C = true
  tt : PySem.W.typeIn K (.ref C) = some (.type "type")
theorem kit_no {K : PySem.W.Frag} {C : Addr} {T : String} {l : List Value} (h : InsC K C) (c : Cls K C) (hl : fastBuiltinMro T = some l) (hn : ∀ a, l.contains (.ref a) = false) : PySem.W.kitOne K (.type T) (.ref C) = some false := by
  have hc : (PySem.W.clsIn K C).isSome = true := by
    obtain ⟨cd, hc, _⟩ := PySem.W.any_some c.hd
    rw [hc]; rfl
  unfold PySem.W.kitOne
  rw [if_neg (by intro z; cases beq_iff_eq.mp z)]
  show (if ((PySem.W.clsIn K C).isSome && PySem.W.typeIn K (.ref C) == some (.type "type")) = true then PySem.W.subIn K (.type T) (.ref C) else none) = _
  rw [hc, h.tt, if_pos (by rfl)]
  show (fastBuiltinMro T).map (·.contains (.ref C)) = some false
  rw [hl, Option.map_some, hn]
theorem notFirst_no {K : PySem.W.Frag} {C : Addr} {T : String} {l : List Value} (hl : fastBuiltinMro T = some l) (hn : ∀ a, l.contains (.ref a) = false) : PySem.W.notFirst K C (.type T) = true := by
  unfold PySem.W.notFirst
  have : PySem.W.subIn K (.type T) (.ref C) = some false := by
    show (fastBuiltinMro T).map (·.contains (.ref C)) = some false
    rw [hl, Option.map_some, hn]
  rw [this]
  simp
theorem InsC.ty {K : PySem.W.Frag} {C : Addr} (h : InsC K C) (c : Cls K C) {H : Hp} {a dx : Addr} {fs : List (Str × V)} (e : H a = some (.ins C dx fs)) : TyX K H (.ref a) (.ref C) := .base (.ins e c h.ha h.hn h.tk h.mo)
theorem notFirst_self {K : PySem.W.Frag} {C : Addr} : PySem.W.notFirst K C (.ref C) = true := by
  unfold PySem.W.notFirst
  simp
theorem kit_self {K : PySem.W.Frag} {C : Addr} : PySem.W.kitOne K (.ref C) (.ref C) = some true := by
  unfold PySem.W.kitOne
  simp
/-! what is evaluated holds P -/
def EvX (te : TE) (σ : L2.St) (H : Hp) (P : V → Hp → Prop) : Prop := ∀ H1, Ex H H1 → ∀ Q : VK, (∀ v H2, Ex H1 H2 → P v H2 → Q v H2) → te σ H1 Q
/-- the same, of a new object -/
def EvN (te : TE) (σ : L2.St) (H : Hp) (P : V → Hp → Prop) : Prop := ∀ H1, Ex H H1 → ∀ Q : VK, (∀ p H2, H1 p = none → Ex H1 H2 → P (.ref p) H2 → Q (.ref p) H2) → te σ H1 Q
section
variable {K : PySem.W.Frag} {σ : L2.St} {H : Hp} {te tb tl : TE} {ta tr : TA} {D : Ends} {tz : TS}
theorem EvN.x {P : V → Hp → Prop} (h : EvN te σ H P) : EvX te σ H P := fun H1 e Q q => h H1 e Q fun p H2 _ e2 z => q _ H2 e2 z
theorem EvN.to {P R : V → Hp → Prop} (h : EvN te σ H P) (r : ∀ v H1, Ex H H1 → P v H1 → R v H1) : EvN te σ H R := fun H1 e Q q => h H1 e Q fun p H2 hn e2 z => q p H2 hn e2 (r _ H2 (e.trans e2) z)
theorem n_asg {P : V → Hp → Prop} {i : Nat} (h : EvN te σ H P) (k : ∀ p H1, H p = none → Ex H H1 → P (.ref p) H1 → tz D (σ.set i (some (.ref p))) H1) : tSeq (tAsg te (gName i)) tz D σ H := h H (Ex.refl H) _ fun p H1 hn e z => k p H1 hn e z
theorem n_ret {P : V → Hp → Prop} (h : EvN te σ H P) (k : ∀ p H1, H p = none → Ex H H1 → P (.ref p) H1 → D.rt (.ref p) H1) : tRet te D σ H := h H (Ex.refl H) _ fun p H1 hn e z => k p H1 hn e z
theorem EvX.of {v : V} {P : V → Hp → Prop} (h : Ev te σ H v) (p : ∀ H1, Ex H H1 → P v H1) : EvX te σ H P := fun H1 e Q q => h H1 e Q fun H2 e2 => q v H2 e2 (p H2 (e.trans e2))
theorem EvX.to {P R : V → Hp → Prop} (h : EvX te σ H P) (r : ∀ v H1, Ex H H1 → P v H1 → R v H1) : EvX te σ H R := fun H1 e Q q => h H1 e Q fun v H2 e2 p => q v H2 e2 (r v H2 (e.trans e2) p)
theorem x_asg {P : V → Hp → Prop} {i : Nat} (h : EvX te σ H P) (k : ∀ v H1, Ex H H1 → P v H1 → tz D (σ.set i (some v)) H1) : tSeq (tAsg te (gName i)) tz D σ H := h H (Ex.refl H) _ fun v H1 e p => k v H1 e p
theorem x_ret {P : V → Hp → Prop} (h : EvX te σ H P) (k : ∀ v H1, Ex H H1 → P v H1 → D.rt v H1) : tRet te D σ H := h H (Ex.refl H) _ fun v H1 e p => k v H1 e p
theorem q_any {i : Nat} (h : te σ H fun v H1 => tz D (σ.set i (some v)) H1) : tSeq (tAsg te (gName i)) tz D σ H := h
/-- facts that outlive the filling of a list -/
def Sits (P : Nat → V → Hp → Prop) : Prop := ∀ i v H H' D acc, H D = some (.lst acc) → Kp D H H' → P i v H → P i v H'
/-- what a comprehension that makes objects leaves -/
def Made (P : Nat → V → Hp → Prop) (n : Nat) (v : V) (H : Hp) : Prop := ∃ p ys, v = .ref p ∧ H p = some (.lst ys) ∧ ys.length = n ∧ ∀ i y, ys[i]? = some y → P i y H
def Cx2 (H1 : Hp) (P : Nat → V → Hp → Prop) (D : Addr) (i : Nat) (H' : Hp) : Prop := H1 D = none ∧ Ex H1 H' ∧ ∃ ys, H' D = some (.lst ys) ∧ ys.length = i ∧ ∀ j y, ys[j]? = some y → P j y H'
theorem cx2_turn {H1 H' : Hp} {P : Nat → V → Hp → Prop} {Dl : Addr} {i : Nat} {σ' : L2.St} (hs : Sits P) (c : Cx2 H1 P Dl i H') (hi : i < 100000) (he : EvX te σ' H1 (P i)) :
    te σ' H' fun y H4 => ∃ acc, H4 Dl = some (.lst acc) ∧ acc.length < sizeLine ∧ Cx2 H1 P Dl (i + 1) (upd H4 Dl (.lst (acc ++ [y]))) := by
  obtain ⟨hn, ex, ys, hD, hl, hp⟩ := c
  refine he H' ex _ fun y H4 e4 py => ⟨ys, e4 _ _ hD, by rw [hl]; exact sz_lt hi, hn, fun b o q => ?_, ys ++ [y], upd_same, by rw [List.length_append, hl]; rfl, fun j z hj => ?_⟩
  · have nb : b ≠ Dl := fun z => by rw [z, hn] at q; cases q
    rw [upd_ne nb]
    exact e4 _ _ (ex _ _ q)
  · have kk : Kp Dl H4 (upd H4 Dl (.lst (ys ++ [y]))) := Kp.set (Kp.refl _ _)
    by_cases hj' : j < ys.length
    · rw [List.getElem?_append_left hj'] at hj
      exact hs _ _ _ _ Dl ys (e4 _ _ hD) kk (hs _ _ _ _ Dl ys hD (Kp.of e4) (hp j z hj))
    · rw [List.getElem?_append_right (by omega)] at hj
      have e0 : j - ys.length = 0 := by
        have := (List.getElem?_eq_some_iff.mp hj).1
        simp at this
        omega
      rw [e0] at hj
      have ej : j = i := by omega
      cases hj
      subst ej
      exact hs _ _ _ _ Dl ys (e4 _ _ hD) kk py
theorem en_lcL {a : Addr} {xs : List V} {j : Nat} {vs : List Nat} {P : Nat → V → Hp → Prop} (hs : Sits P) (h : Ev tl σ H (.ref a)) (hx : SqL K H a xs) (hz : xs.length ≤ 40000) (hw : ∀ x, wipe ((wipe σ vs).set j (some x)) vs = wipe σ vs)
    (he : ∀ (i : Nat) (x : V) H1, Ex H H1 → xs[i]? = some x → EvX te ((wipe σ vs).set j (some x)) H1 (P i)) : EvN (tLc (iList K tl) (gName j) tYes te vs) σ H (Made P xs.length) := fun H0 e Q q => h H0 e _ fun H1 e1 => ⟨a, rfl, ⟨xs, ex_l (e.trans e1) hx⟩, fun Dl hD =>
  lc_list (xs := xs) (Cx2 H1 P Dl) ⟨hD, Ex.new hD, [], upd_same, rfl, fun j y hj => by simp at hj⟩ (fun i H' _ p => ex_l ((e.trans e1).trans p.2.1) hx) (fun i x H' hi p => ⟨hw x, by
    exact cx2_turn hs p (by have := (List.getElem?_eq_some_iff.mp hi).1; omega) (he i x H1 (e.trans e1) hi)⟩)
    (fun H' p => by
      obtain ⟨hn, ex, ys, h1, h2, h3⟩ := p
      exact q Dl H' (fresh_back e1 hn) (e1.trans ex) ⟨Dl, ys, rfl, h1, h2, h3⟩)⟩
end
end Way

/-! readings of own exceptions -/
namespace Way
open PySem PySem.Spec PyProof.Rows L2 Evl
theorem log_le {b : Int} (h0 : 0 < b) (h1 : b ≤ 10000000000000000) : b.natAbs.log2 < 9000 := by
  have h2 : b.natAbs < 2 ^ 60 := by omega
  have := (Nat.log2_lt (n := b.natAbs) (k := 60) (by omega)).mpr h2
  omega
section
variable {K : PySem.W.Frag} {C : Addr} {f g : Str} {H : Hp} {a : Addr} {v w : V} {Q : VK} {z : Option V}
theorem init2 (T : OexC K C) (hno : PySem.W.findIn K (.ref C) f = some none) (hnog : PySem.W.findIn K (.ref C) g = some none) (ha : H a = some (exo a C none)) (k : ∀ dx, H dx = none → dx ≠ a → Q .non (upd (upd (upd H dx (exd dx [(f, v)])) a (exo a C (some dx))) dx (exd dx [(g, w), (f, v)]))) {ct bk : L2.St → Hp → Prop} :
    tSeq (tOst K f (tVar 0) (tVar 1)) (tOst K g (tVar 0) (tVar 2)) { nx := fun _ H' => Q .non H', rt := Q, bk := bk, ct := ct } [some (.ref a), some v, some w, z] H :=
  ⟨_, rfl, _, rfl, a, C, rfl, T, hno, .inl ⟨ha, fun dx hd hn => ⟨_, rfl, _, rfl, a, C, rfl, T, hnog, .inr ⟨dx, _, upd_same, (upd_ne hn).trans upd_same, (by decide : 1 ≤ 900), k dx hd hn⟩⟩⟩⟩
end
/-- raise X(), an own exception class without own __init__ -/
theorem pmk_own0 {X : Cx} {C : Addr} {bmB : List Value} {B newId initId : String} {x : Str} {p pos : Pos} (F : ExcBaseFacts B newId initId bmB) (q : PySem.W.excIn X.K C bmB newId = true) (gC : X.mg x = some (.ref C)) (kC : PySem.W.keepIn X.K (.ref C) = true) (r : Raises X (.ref C)) (hg : Gl X x)
    (hdb : (x == ("__debug__" : Str)) = false := by decide) : PMk X (.Call (.Name x p) [] [] pos) (fun _ H Q => Q (.ref C) none H) := by
  intro pins s σ H Q I h
  refine wpAny_Call_Name_kw (ld_glob I hg gC ?_ hdb)
  refine PySem.W.callWith_K0 I.kIn kC ?_
  show wpAny _ _ (call (.ref C) []) _ _ _
  obtain ⟨bm, N, nm, qn, bs, hdct, sn, sub, ab, col, dd, k0, k1, k2, k3, k5, mN, hC, hN, hni, T⟩ := exc_obj I.kIn q
  refine wpAny_call_exc_subT F T hC hN hni (fun h' e hm => ?_) (by show 0 ≤ sizeLine; exact Nat.zero_le _)
  exact mk_of I hm r h (I.hok.gone hm.new)
theorem takes0 {X : Cx} : Takes X (fun _ _ _ _ => False) := fun _ _ x => by
  obtain ⟨_, _, _, _, _, _, _, _, _, _, _, _, _, _, _, _, z⟩ := x
  exact z.elim
/-! what is evaluated holds P -/
def EvXA (ta : TA) (σ : L2.St) (H : Hp) (P : List V → Hp → Prop) : Prop := ∀ H1, Ex H H1 → ∀ Q : List V → Hp → Prop, (∀ v H2, Ex H1 H2 → P v H2 → Q v H2) → ta σ H1 Q
section
variable {σ : L2.St} {H : Hp} {te tb : TE} {ta tr : TA} {D : Ends} {tz : TS}
theorem exa_nil {P : List V → Hp → Prop} (p : ∀ H1, P [] H1) : EvXA tNil σ H P := fun H1 _ _ q => q [] H1 (Ex.refl H1) (p H1)
theorem exa_cons {P : V → Hp → Prop} {R S : List V → Hp → Prop} (h : EvX te σ H P) (hr : EvXA tr σ H R) (m : ∀ v H1 H2, Ex H1 H2 → P v H1 → P v H2) (s : ∀ v vs H1, P v H1 → R vs H1 → S (v :: vs) H1) : EvXA (tCons te tr) σ H S := fun H1 e Q q =>
  h H1 e _ fun v H2 e2 p => hr H2 (e.trans e2) _ fun vs H3 e3 r => q _ H3 (e2.trans e3) (s v vs H3 (m v H2 H3 e3 p) r)
theorem ex_lst {R : List V → Hp → Prop} (h : EvXA ta σ H R) (m : ∀ v H1 H2, Ex H1 H2 → R v H1 → R v H2) (hl : ∀ vs H1, R vs H1 → vs.length ≤ 100000) : EvX (tLst ta) σ H (fun v H' => ∃ p xs, v = .ref p ∧ H' p = some (.lst xs) ∧ R xs H') := fun H1 e Q q =>
  h H1 e _ fun xs H2 e2 r => ⟨sz_of (hl xs H2 r), fun p hp => q _ _ (e2.trans (Ex.new hp)) ⟨p, xs, rfl, upd_same, m xs H2 _ (Ex.new hp) r⟩⟩
theorem ex_tup {R : List V → Hp → Prop} (h : EvXA ta σ H R) (m : ∀ v H1 H2, Ex H1 H2 → R v H1 → R v H2) (hl : ∀ vs H1, R vs H1 → vs.length ≤ 100000) : EvX (tTup ta) σ H (fun v H' => ∃ p xs, v = .ref p ∧ H' p = some (.tup xs) ∧ R xs H') := fun H1 e Q q =>
  h H1 e _ fun xs H2 e2 r => ⟨sz_of (hl xs H2 r), fun p hp => q _ _ (e2.trans (Ex.new hp)) ⟨p, xs, rfl, upd_same, m xs H2 _ (Ex.new hp) r⟩⟩
theorem ex_cat {R S : List V → Hp → Prop} (h : EvX te σ H (fun v H' => ∃ p xs, v = .ref p ∧ H' p = some (.lst xs) ∧ R xs H')) (h2 : EvX tb σ H (fun v H' => ∃ p xs, v = .ref p ∧ H' p = some (.lst xs) ∧ S xs H')) (m : ∀ v H1 H2, Ex H1 H2 → R v H1 → R v H2) (m2 : ∀ v H1 H2, Ex H1 H2 → S v H1 → S v H2) (hl : ∀ vs H1, R vs H1 → vs.length ≤ 50000) (hl2 : ∀ vs H1, S vs H1 → vs.length ≤ 50000) :
    EvX (tOp rCat te tb) σ H (fun v H' => ∃ p zs, v = .ref p ∧ H' p = some (.lst zs) ∧ ∃ xs ys, zs = xs ++ ys ∧ R xs H' ∧ S ys H') := fun H1 e Q q =>
  h H1 e _ fun v H2 e2 ⟨p, xs, ev, hp, hr⟩ => h2 H2 (e.trans e2) _ fun w H3 e3 ⟨p', ys, ew, hp', hs⟩ => by
    refine ⟨p, p', xs, ys, ev, ew, e3 _ _ hp, hp', ?_, fun t ht => ?_⟩
    · have h1 := hl _ _ hr
      have h2 := hl2 _ _ hs
      first | exact sz_of (by rw [List.length_append]; omega) | exact sz_of (by omega)
    · exact q _ _ ((e2.trans e3).trans (Ex.new ht)) ⟨t, _, rfl, upd_same, xs, ys, rfl, m xs _ _ (e3.trans (Ex.new ht)) hr, m2 ys _ _ (Ex.new ht) hs⟩
end
/-! own exceptions -/
section
variable {K : PySem.W.Frag} {σ : L2.St} {H : Hp} {te : TE} {ta tk : TA} {E : XK} {C : Addr} {f g : Str}
/-- at e: an own error of the class C, its fields -/
def ErrF (C : Addr) (fs : List (Str × V)) (v : V) (H : Hp) : Prop := ∃ e dx, v = .ref e ∧ H e = some (exo e C (some dx)) ∧ H dx = some (exd dx fs)
theorem ErrF.mono {fs : List (Str × V)} {v : V} {H H' : Hp} (x : Ex H H') (h : ErrF C fs v H) : ErrF C fs v H' := let ⟨e, dx, h1, h2, h3⟩ := h; ⟨e, dx, h1, x _ _ h2, x _ _ h3⟩
theorem ex_mk1 {v : V} (h : EvA ta σ H [v]) : EvX (tMkX C (spX1 C f) [] E ta) σ H (ErrF C [(f, v)]) := fun H1 e Q q =>
  h H1 e _ fun H2 e2 => ⟨(by decide : 1 ≤ 1000), fun a ha => ⟨a, v, rfl, upd_same, fun dx hd hn => ⟨rfl, by
    have hd' : H2 dx = none := by rw [upd_ne hn] at hd; exact hd
    refine q _ _ (e2.trans ?_) ⟨a, dx, rfl, upd_same, (upd_ne hn).trans upd_same⟩
    intro b o eb
    have ba := ne_of_none eb ha
    have bd := ne_of_none eb hd'
    rw [upd_ne ba, upd_ne bd, upd_ne ba]
    exact eb⟩⟩⟩
theorem ex_mk2 {v w : V} (h : EvA ta σ H [v, w]) : EvX (tMkX C (spX2 C f g) [] E ta) σ H (ErrF C [(g, w), (f, v)]) := fun H1 e Q q =>
  h H1 e _ fun H2 e2 => ⟨(by decide : 2 ≤ 1000), fun a ha => ⟨a, v, w, rfl, upd_same, fun dx hd hn => ⟨rfl, by
    have hd' : H2 dx = none := by rw [upd_ne hn] at hd; exact hd
    refine q _ _ (e2.trans ?_) ⟨a, dx, rfl, (upd_ne (Ne.symm hn)).trans upd_same, upd_same⟩
    intro b o eb
    have ba := ne_of_none eb ha
    have bd := ne_of_none eb hd'
    rw [upd_ne bd, upd_ne ba, upd_ne bd, upd_ne ba]
    exact eb⟩⟩⟩
theorem ex_mkK1 {gV : List V → List V → List V} {zs : List V} {m : Nat} {v : V} (h : EvA tk σ H zs) (hm : zs.length = m) (hv : ∀ a, gV [.ref a] zs = [.ref a, v]) : EvX (tMkXK C m (spX1 C f) gV E tk) σ H (ErrF C [(f, v)]) := fun H1 e Q q =>
  h H1 e _ fun H2 e2 => ⟨hm, fun a ha => by
    rw [hv]
    refine ⟨a, v, rfl, upd_same, fun dx hd hn => ⟨rfl, ?_⟩⟩
    have hd' : H2 dx = none := by rw [upd_ne hn] at hd; exact hd
    refine q _ _ (e2.trans ?_) ⟨a, dx, rfl, upd_same, (upd_ne hn).trans upd_same⟩
    intro b o eb
    have ba := ne_of_none eb ha
    have bd := ne_of_none eb hd'
    rw [upd_ne ba, upd_ne bd, upd_ne ba]
    exact eb⟩
theorem ex_mkK2 {gV : List V → List V → List V} {zs : List V} {m : Nat} {v w : V} (h : EvA tk σ H zs) (hm : zs.length = m) (hv : ∀ a, gV [.ref a] zs = [.ref a, v, w]) : EvX (tMkXK C m (spX2 C f g) gV E tk) σ H (ErrF C [(g, w), (f, v)]) := fun H1 e Q q =>
  h H1 e _ fun H2 e2 => ⟨hm, fun a ha => by
    rw [hv]
    refine ⟨a, v, w, rfl, upd_same, fun dx hd hn => ⟨rfl, ?_⟩⟩
    have hd' : H2 dx = none := by rw [upd_ne hn] at hd; exact hd
    refine q _ _ (e2.trans ?_) ⟨a, dx, rfl, (upd_ne (Ne.symm hn)).trans upd_same, upd_same⟩
    intro b o eb
    have ba := ne_of_none eb ha
    have bd := ne_of_none eb hd'
    rw [upd_ne bd, upd_ne ba, upd_ne bd, upd_ne ba]
    exact eb⟩
theorem ev_xv {fs : List (Str × V)} {u v : V} (h : Ev te σ H u) (x : ErrF C fs u H) (T : XfC K C) (hno : PySem.W.findIn K (.ref C) f = some none) (l : fs.lookup f = some v) : Ev (tXv K f te) σ H v := fun H1 e Q q =>
  h H1 e _ fun H2 e2 => by
    obtain ⟨a, dx, rfl, h1, h2⟩ := x
    have e3 := e.trans e2
    exact ⟨a, C, dx, fs, v, rfl, T, hno, e3 _ _ h1, e3 _ _ h2, l, q H2 e2⟩
/-- an own error of the class C -/
def Err (C : Addr) (v : V) (H : Hp) : Prop := ∃ e d, v = .ref e ∧ H e = some (exo e C d) ∧ ∀ dx, d = some dx → ∃ fs, H dx = some (exd dx fs)
theorem Err.mono {v : V} {H H' : Hp} (x : Ex H H') (h : Err C v H) : Err C v H' := let ⟨e, d, h1, h2, h3⟩ := h; ⟨e, d, h1, x _ _ h2, fun dx q => let ⟨fs, r⟩ := h3 dx q; ⟨fs, x _ _ r⟩⟩
theorem ErrF.err {fs : List (Str × V)} {v : V} (h : ErrF C fs v H) : Err C v H := let ⟨e, dx, h1, h2, h3⟩ := h; ⟨e, some dx, h1, h2, fun dy q => by cases q; exact ⟨fs, h3⟩⟩
theorem ex_mk0 : EvX (fun σ H Q => ∀ a, H a = none → Q (.ref a) (upd H a (exo a C none))) σ H (Err C) := fun H1 e Q q a ha => q _ _ (Ex.new ha) ⟨a, none, rfl, upd_same, fun dx z => nomatch z⟩
theorem rc_isX {v c : V} {cv : Value} {b : Bool} (x : Err C v H) (T : ExcC K C) (k : ClsV c cv) (e : PySem.W.kitOne K (.ref C) cv = some b) : RC (rIsX K) [v, c] H (.bl b) := fun H1 e1 Q q => by
  obtain ⟨a, d, rfl, h1, h2⟩ := x.mono e1
  exact ⟨a, C, d, c, cv, b, rfl, h1, h2, T, k, e, q H1 (Ex.refl H1)⟩
end
end Way

/-! lists of things that are told by codes; what comprehensions make of them -/
namespace Way
open PySem PySem.Spec PyProof.Rows L2 Evl
section
variable {α : Type} {R : V → α → Prop}
theorem pr_at : ∀ {xs : List V} {S : List α} {i : Nat} {x : V}, Paired R xs S → xs[i]? = some x → ∃ y, S[i]? = some y ∧ R x y
  | _, _, _, _, .nil, h => by simp at h
  | _, _, 0, _, .cons a _, h => by simp at h; subst h; exact ⟨_, rfl, a⟩
  | _, _, i + 1, _, .cons _ t, h => by simp at h; obtain ⟨y, h1, h2⟩ := pr_at t h; exact ⟨y, by simpa using h1, h2⟩
theorem pr_app {xs us : List V} {ys vs : List α} (p : Paired R xs ys) (t : Paired R us vs) : Paired R (xs ++ us) (ys ++ vs) := by
  induction p with
  | nil => exact t
  | cons a r ih => exact .cons a ih
theorem given_cons {n : Nat} {f : Nat → Bool} {v : Nat → V} : given (n + 1) f v = (if f 0 = true then [v 0] else []) ++ given n (fun i => f (i + 1)) (fun i => v (i + 1)) := by
  unfold given
  rw [List.range_succ_eq_map, List.filter_cons]
  cases h : f 0 with
  | true =>
    simp only [if_true, List.map_cons, List.filter_map, List.map_map, List.singleton_append]
    rfl
  | false =>
    simp only [Bool.false_eq_true, if_false, List.filter_map, List.map_map, List.nil_append]
    rfl
theorem given_flt {g : α → Bool} : ∀ {xs : List V} {S : List α} {f : Nat → Bool} {v : Nat → V}, Paired R xs S → (∀ i x y, xs[i]? = some x → S[i]? = some y → f i = g y ∧ v i = x) → Paired R (given xs.length f v) (S.filter g)
  | _, _, f, v, .nil, h => by
    unfold given
    exact .nil
  | x :: _, y :: _, f, v, .cons a t, h => by
    rw [List.length_cons, given_cons, List.filter_cons]
    obtain ⟨h1, h2⟩ := h 0 x y rfl rfl
    have ih := given_flt (g := g) (f := fun i => f (i + 1)) (v := fun i => v (i + 1)) t fun i x' y' e1 e2 => h (i + 1) x' y' (by simpa using e1) (by simpa using e2)
    rw [h1, h2]
    cases g y with
    | true => exact .cons a ih
    | false => exact ih
end
/-- a list of things told by codes -/
def LAt {α : Type} (P : α → V → Hp → Prop) (S : List α) (v : V) (H : Hp) : Prop := ∃ p xs, v = .ref p ∧ H p = some (.lst xs) ∧ Paired (fun x i => P i x H) xs S
def UAt {α : Type} (P : α → V → Hp → Prop) (S : List α) (v : V) (H : Hp) : Prop := ∃ p xs, v = .ref p ∧ H p = some (.tup xs) ∧ Paired (fun x i => P i x H) xs S
section
variable {K : PySem.W.Frag} {σ : L2.St} {H : Hp} {te tb tl : TE} {t : TT} {ta tr : TA} {D : Ends} {tz : TS} {α : Type} {P : α → V → Hp → Prop} {S : List α}
def Mon (P : α → V → Hp → Prop) : Prop := ∀ i v H H', Ex H H' → P i v H → P i v H'
theorem LAt.mono {v : V} {H' : Hp} (m : Mon P) (e : Ex H H') (h : LAt P S v H) : LAt P S v H' := let ⟨p, xs, h1, h2, h3⟩ := h; ⟨p, xs, h1, e _ _ h2, Paired.mapP h3 fun _ _ q => m _ _ _ _ e q⟩
theorem UAt.mono {v : V} {H' : Hp} (m : Mon P) (e : Ex H H') (h : UAt P S v H) : UAt P S v H' := let ⟨p, xs, h1, h2, h3⟩ := h; ⟨p, xs, h1, e _ _ h2, Paired.mapP h3 fun _ _ q => m _ _ _ _ e q⟩
/-- [x for x in l if t] -/
theorem en_fltL {u : V} {j : Nat} {vs : List Nat} {g : α → Bool} (m : Mon P) (h : Ev tl σ H u) (hp : LAt P S u H) (hz : S.length ≤ 40000) (hj : j < σ.length) (hw : ∀ x, wipe ((wipe σ vs).set j (some x)) vs = wipe σ vs)
    (ht : ∀ (x : V) (i : α) H1, Ex H H1 → i ∈ S → P i x H1 → EvT t ((wipe σ vs).set j (some x)) H1 (g i)) : EvN (tLc (iList K tl) (gName j) t (tVar j) vs) σ H (LAt P (S.filter g)) := by
  obtain ⟨p, xs, rfl, hl, hx⟩ := hp
  have hlen : xs.length = S.length := Paired.length hx
  intro H1 e Q q
  have hat : ∀ i x, xs[i]? = some x → ∃ y, S[i]? = some y ∧ P y x H := fun i x hi => pr_at hx hi
  refine el_lcL (K := K) (fun i => (S[i]?.map g).getD false) (fun i => xs.getD i .non) h (sq_of hl) (by omega) hw (fun i x H2 e2 hi => ?_) (fun i x H2 e2 hi _ => ?_) H1 e Q fun pn H2 hn e2 h2 => ?_
  · obtain ⟨y, hy, py⟩ := hat i x hi
    rw [hy]
    exact ht x y H2 e2 (List.mem_of_getElem? hy) (m _ _ _ _ e2 py)
  · have ed : xs.getD i .non = x := by rw [List.getD_eq_getElem?_getD, hi]; rfl
    rw [ed]
    refine ev_var ?_
    rw [List.getElem?_set_self (by rw [wipe_length]; exact hj)]
  · refine q pn _ hn e2 ⟨pn, _, rfl, h2, ?_⟩
    refine Paired.mapP (given_flt (g := g) hx fun i x y e1 e2 => ⟨by rw [e2]; rfl, by rw [List.getD_eq_getElem?_getD, e1]; rfl⟩) fun _ _ z => m _ _ _ _ (e.trans e2) z
/-- [x for x in l] of booleans and the like: [e for x in l], e told by the code -/
theorem el_mapL {u : V} {j : Nat} {vs : List Nat} {w : α → V} (m : Mon P) (h : Ev tl σ H u) (hp : LAt P S u H) (hz : S.length ≤ 40000) (hw : ∀ x, wipe ((wipe σ vs).set j (some x)) vs = wipe σ vs)
    (he : ∀ (x : V) (i : α) H1, Ex H H1 → i ∈ S → P i x H1 → Ev te ((wipe σ vs).set j (some x)) H1 (w i)) : EvL (tLc (iList K tl) (gName j) tYes te vs) σ H (S.map w) := by
  obtain ⟨p, xs, rfl, hl, hx⟩ := hp
  have hlen : xs.length = S.length := Paired.length hx
  have hat : ∀ i x, xs[i]? = some x → ∃ y, S[i]? = some y ∧ P y x H := fun i x hi => pr_at hx hi
  have eq : given xs.length (fun _ => true) (fun i => (S[i]?.map w).getD .non) = S.map w := by
    unfold given
    rw [List.filter_eq_self.mpr fun _ _ => rfl, hlen]
    refine List.ext_getElem? fun i => ?_
    rw [List.getElem?_map, List.getElem?_map]
    by_cases hi : i < S.length
    · rw [List.getElem?_range hi, List.getElem?_eq_getElem hi]
      show some ((Option.map w S[i]?).getD V.non) = some (w S[i])
      rw [List.getElem?_eq_getElem hi]
      rfl
    · rw [List.getElem?_eq_none (by simpa using Nat.le_of_not_lt hi), List.getElem?_eq_none (Nat.le_of_not_lt hi)]; rfl
  rw [← eq]
  refine el_lcL (K := K) (fun _ => true) (fun i => (S[i]?.map w).getD .non) h (sq_of hl) (by omega) hw (fun i x H2 e2 hi => ?_) (fun i x H2 e2 hi _ => ?_)
  · exact fun H3 e3 Q q => q H3 (Ex.refl H3)
  · obtain ⟨y, hy, py⟩ := hat i x hi
    rw [hy]
    exact he x y H2 e2 (List.mem_of_getElem? hy) (m _ _ _ _ e2 py)
/-- the same over a tuple -/
theorem el_mapT {p : Addr} {xs : List V} {j : Nat} {vs : List Nat} {w : α → V} (m : Mon P) (h : Ev tl σ H (.ref p)) (hs : SqT K H p xs) (hx : Paired (fun x i => P i x H) xs S) (hz : S.length ≤ 40000) (hw : ∀ x, wipe ((wipe σ vs).set j (some x)) vs = wipe σ vs)
    (he : ∀ (x : V) (i : α) H1, Ex H H1 → i ∈ S → P i x H1 → Ev te ((wipe σ vs).set j (some x)) H1 (w i)) : EvL (tLc (iTup K tl) (gName j) tYes te vs) σ H (S.map w) := by
  have hlen : xs.length = S.length := Paired.length hx
  have hat : ∀ i x, xs[i]? = some x → ∃ y, S[i]? = some y ∧ P y x H := fun i x hi => pr_at hx hi
  have eq : given xs.length (fun _ => true) (fun i => (S[i]?.map w).getD .non) = S.map w := by
    unfold given
    rw [List.filter_eq_self.mpr fun _ _ => rfl, hlen]
    refine List.ext_getElem? fun i => ?_
    rw [List.getElem?_map, List.getElem?_map]
    by_cases hi : i < S.length
    · rw [List.getElem?_range hi, List.getElem?_eq_getElem hi]
      show some ((Option.map w S[i]?).getD V.non) = some (w S[i])
      rw [List.getElem?_eq_getElem hi]
      rfl
    · rw [List.getElem?_eq_none (by simpa using Nat.le_of_not_lt hi), List.getElem?_eq_none (Nat.le_of_not_lt hi)]; rfl
  rw [← eq]
  refine el_lcT (K := K) (fun _ => true) (fun i => (S[i]?.map w).getD .non) h hs (by omega) hw (fun i x H2 e2 hi => ?_) (fun i x H2 e2 hi _ => ?_)
  · exact fun H3 e3 Q q => q H3 (Ex.refl H3)
  · obtain ⟨y, hy, py⟩ := hat i x hi
    rw [hy]
    exact he x y H2 e2 (List.mem_of_getElem? hy) (m _ _ _ _ e2 py)
/-- [w for w in TUPLE if t], values that are no objects -/
theorem el_fltT {p : Addr} {xs : List V} {j : Nat} {vs : List Nat} {g : V → Bool} (h : Ev tl σ H (.ref p)) (hs : SqT K H p xs) (hz : xs.length ≤ 40000) (hj : j < σ.length) (hw : ∀ x, wipe ((wipe σ vs).set j (some x)) vs = wipe σ vs)
    (ht : ∀ (x : V) H1, Ex H H1 → x ∈ xs → EvT t ((wipe σ vs).set j (some x)) H1 (g x)) : EvL (tLc (iTup K tl) (gName j) t (tVar j) vs) σ H (xs.filter g) := by
  have eq : given xs.length (fun i => (xs[i]?.map g).getD false) (fun i => xs.getD i .non) = xs.filter g := by
    have := given_flt (R := fun x y => x = y) (g := g) (f := fun i => (xs[i]?.map g).getD false) (v := fun i => xs.getD i .non) (xs := xs) (S := xs) ?_ fun i x y e1 e2 => ⟨by rw [e2]; rfl, by rw [List.getD_eq_getElem?_getD, e1]; rfl⟩
    · clear ht hs h hz
      revert this
      generalize given xs.length (fun i => (xs[i]?.map g).getD false) (fun i => xs.getD i .non) = as
      generalize xs.filter g = bs
      intro this
      induction this with
      | nil => rfl
      | cons a _ ih => rw [a, ih]
    · clear ht hs h hz
      induction xs with
      | nil => exact .nil
      | cons a r ih => exact .cons rfl ih
  rw [← eq]
  refine el_lcT (K := K) (fun i => (xs[i]?.map g).getD false) (fun i => xs.getD i .non) h hs hz hw (fun i x H2 e2 hi => ?_) (fun i x H2 e2 hi _ => ?_)
  · rw [hi]
    exact ht x H2 e2 (List.mem_of_getElem? hi)
  · have ed : xs.getD i .non = x := by rw [List.getD_eq_getElem?_getD, hi]; rfl
    rw [ed]
    refine ev_var ?_
    rw [List.getElem?_set_self (by rw [wipe_length]; exact hj)]
/-- [e for x in TUPLE] -/
theorem el_mapV {p : Addr} {xs : List V} {j : Nat} {vs : List Nat} {w : V → V} (h : Ev tl σ H (.ref p)) (hs : SqT K H p xs) (hz : xs.length ≤ 40000) (hw : ∀ x, wipe ((wipe σ vs).set j (some x)) vs = wipe σ vs)
    (he : ∀ (x : V) H1, Ex H H1 → x ∈ xs → Ev te ((wipe σ vs).set j (some x)) H1 (w x)) : EvL (tLc (iTup K tl) (gName j) tYes te vs) σ H (xs.map w) :=
  el_mapT (P := fun (i : V) v (_ : Hp) => v = i) (fun _ _ _ _ _ z => z) h hs (by
    clear he hs h hz
    induction xs with
    | nil => exact .nil
    | cons a r ih => exact .cons rfl ih) hz hw fun x i H1 e hi z => by subst z; exact he x H1 e hi
theorem ev_all {bs : List Bool} (h : EvL te σ H (bs.map V.bl)) : Ev (tCB (rAll K) (tCons te tNil)) σ H (.bl (bs.all id)) := fun H1 e Q q => h H1 e _ fun p H2 hn e2 h2 => ⟨p, bs, rfl, SqL.of h2, q H2 e2⟩
theorem ev_any {bs : List Bool} (h : EvL te σ H (bs.map V.bl)) : Ev (tCB (rAny K) (tCons te tNil)) σ H (.bl (bs.any id)) := fun H1 e Q q => h H1 e _ fun p H2 hn e2 h2 => ⟨p, bs, rfl, SqL.of h2, q H2 e2⟩
theorem ev_allV {p : Addr} {xs : List V} {j : Nat} {vs : List Nat} {w : V → Bool} (h : Ev tl σ H (.ref p)) (hs : SqT K H p xs) (hz : xs.length ≤ 40000) (hw : ∀ x, wipe ((wipe σ vs).set j (some x)) vs = wipe σ vs)
    (he : ∀ (x : V) H1, Ex H H1 → x ∈ xs → Ev te ((wipe σ vs).set j (some x)) H1 (.bl (w x))) : Ev (tCB (rAll K) (tCons (tLc (iTup K tl) (gName j) tYes te vs) tNil)) σ H (.bl ((xs.map w).all id)) :=
  ev_all (by rw [List.map_map]; exact el_mapV (w := fun x => .bl (w x)) h hs hz hw he)
theorem ev_allP {p : Addr} {xs : List V} {j : Nat} {vs : List Nat} {w : α → Bool} (m : Mon P) (h : Ev tl σ H (.ref p)) (hs : SqT K H p xs) (hx : Paired (fun x i => P i x H) xs S) (hz : S.length ≤ 40000) (hw : ∀ x, wipe ((wipe σ vs).set j (some x)) vs = wipe σ vs)
    (he : ∀ (x : V) (i : α) H1, Ex H H1 → i ∈ S → P i x H1 → Ev te ((wipe σ vs).set j (some x)) H1 (.bl (w i))) : Ev (tCB (rAll K) (tCons (tLc (iTup K tl) (gName j) tYes te vs) tNil)) σ H (.bl ((S.map w).all id)) :=
  ev_all (by rw [List.map_map]; exact el_mapT (w := fun x => .bl (w x)) m h hs hx hz hw he)
theorem ev_anyP {p : Addr} {xs : List V} {j : Nat} {vs : List Nat} {w : α → Bool} (m : Mon P) (h : Ev tl σ H (.ref p)) (hs : SqT K H p xs) (hx : Paired (fun x i => P i x H) xs S) (hz : S.length ≤ 40000) (hw : ∀ x, wipe ((wipe σ vs).set j (some x)) vs = wipe σ vs)
    (he : ∀ (x : V) (i : α) H1, Ex H H1 → i ∈ S → P i x H1 → Ev te ((wipe σ vs).set j (some x)) H1 (.bl (w i))) : Ev (tCB (rAny K) (tCons (tLc (iTup K tl) (gName j) tYes te vs) tNil)) σ H (.bl ((S.map w).any id)) :=
  ev_any (by rw [List.map_map]; exact el_mapT (w := fun x => .bl (w x)) m h hs hx hz hw he)
/-- displays of things told by codes -/
def EvP (ta : TA) (σ : L2.St) (H : Hp) (P : α → V → Hp → Prop) (S : List α) : Prop := ∀ H1, Ex H H1 → ∀ Q : List V → Hp → Prop, (∀ xs H2, Ex H1 H2 → Paired (fun x i => P i x H2) xs S → Q xs H2) → ta σ H1 Q
theorem evp_nil : EvP tNil σ H P [] := fun H1 _ _ q => q [] H1 (Ex.refl H1) .nil
theorem evp_cons {i : α} (m : Mon P) (h : EvX te σ H (P i)) (r : EvP tr σ H P S) : EvP (tCons te tr) σ H P (i :: S) := fun H1 e Q q =>
  h H1 e _ fun v H2 e2 p => r H2 (e.trans e2) _ fun xs H3 e3 ps => q _ H3 (e2.trans e3) (.cons (m _ _ _ _ e3 p) ps)
theorem en_lstP (m : Mon P) (h : EvP ta σ H P S) (hz : S.length ≤ 100000) : EvN (tLst ta) σ H (LAt P S) := fun H1 e Q q =>
  h H1 e _ fun xs H2 e2 ps => ⟨sz_of (by have := Paired.length ps; omega), fun p hp => q p _ (fresh_back e2 hp) (e2.trans (Ex.new hp)) ⟨p, xs, rfl, upd_same, Paired.mapP ps fun _ _ z => m _ _ _ _ (Ex.new hp) z⟩⟩
/-- facts that outlive the filling of a list -/
def Stay (P : α → V → Hp → Prop) : Prop := ∀ i v H H' D acc, H D = some (.lst acc) → Kp D H H' → P i v H → P i v H'
theorem pr_of {β : Type} {R : V → β → Prop} : ∀ {ys : List V} {S : List β}, ys.length = S.length → (∀ (i : Nat) y s, ys[i]? = some y → S[i]? = some s → R y s) → Paired R ys S
  | [], [], _, _ => .nil
  | y :: ys, s :: S, hl, h => .cons (h 0 y s rfl rfl) (pr_of (by simpa using hl) fun i a b e1 e2 => h (i + 1) a b (by simpa using e1) (by simpa using e2))
/-- [e for x in l], e makes objects -/
theorem en_mapL {β : Type} {R : β → V → Hp → Prop} {c : α → β} {u : V} {j : Nat} {vs : List Nat} (m : Mon P) (hR : Stay R) (h : Ev tl σ H u) (hp : LAt P S u H) (hz : S.length ≤ 40000) (hw : ∀ x, wipe ((wipe σ vs).set j (some x)) vs = wipe σ vs)
    (he : ∀ (x : V) (i : α) H1, Ex H H1 → i ∈ S → P i x H1 → EvX te ((wipe σ vs).set j (some x)) H1 (R (c i))) : EvN (tLc (iList K tl) (gName j) tYes te vs) σ H (LAt R (S.map c)) := by
  obtain ⟨p, xs, rfl, hl, hx⟩ := hp
  have hlen : xs.length = S.length := Paired.length hx
  refine (en_lcL (K := K) (P := fun k v H' => ∀ s, S[k]? = some s → R (c s) v H') (fun i v H1 H2 D acc h1 h2 h3 s hs => hR _ _ _ _ D acc h1 h2 (h3 s hs)) h (sq_of hl) (by omega) hw fun i x H1 e hi => ?_).to fun v H1 e hm => ?_
  · obtain ⟨y, hy, py⟩ := pr_at hx hi
    refine (he x y H1 e (List.mem_of_getElem? hy) (m _ _ _ _ e py)).to fun v H2 e2 r s hs => ?_
    rw [hy] at hs
    cases hs
    exact r
  · obtain ⟨q, ys, h1, h2, h3, h4⟩ := hm
    refine ⟨q, ys, h1, h2, pr_of (by rw [List.length_map, h3, hlen]) fun i y s e1 e2 => ?_⟩
    rw [List.getElem?_map] at e2
    cases e3 : S[i]? with
    | none => rw [e3] at e2; cases e2
    | some z => rw [e3] at e2; cases e2; exact h4 i y e1 z e3
/-- a for over a list that is made for it -/
theorem x_forL {g : TG} {tu : TS} (h : EvN tl σ H (LAt P S)) (Iv : Addr → List V → Nat → L2.St → Hp → Prop) (h0 : ∀ l xs H1, H l = none → Ex H H1 → H1 l = some (.lst xs) → Paired (fun x i => P i x H1) xs S → Iv l xs 0 σ H1) (hl : ∀ l xs i σ' H', Iv l xs i σ' H' → H' l = some (.lst xs))
    (hs : ∀ l xs i x σ' H', xs[i]? = some x → Iv l xs i σ' H' → g x σ' H' fun σ2 H2 => tu { D with nx := Iv l xs (i + 1), ct := Iv l xs (i + 1), bk := tz D } σ2 H2) (hd : ∀ l xs σ' H', Iv l xs xs.length σ' H' → tz D σ' H') : tSeq (tFor (iList K tl) g tu) tz D σ H :=
  h H (Ex.refl H) _ fun p H1 hn e z => by
    obtain ⟨l, xs, el, h1, hp⟩ := z
    cases el
    exact ⟨p, rfl, ⟨xs, sq_of h1⟩, for_list (D := { D with nx := tz D }) (Iv p xs) (h0 p xs H1 hn e h1 hp) (fun i σ' H' _ q => sq_of (hl p xs i σ' H' q)) (fun i x σ' H' hx q => hs p xs i x σ' H' hx q) (fun σ' H' q => hd p xs σ' H' q)⟩
theorem yes_of {A B : Hp → Prop} (h : A H) : tYes σ H (fun b H3 => if b = true then A H3 else B H3) := by
  show (if true = true then A H else B H)
  rw [if_pos rfl]
  exact h
/-- [e for x in TUPLE for y in TUPLE], e makes objects -/
theorem en_lc2T {β : Type} {R : β → V → Hp → Prop} {c : α → α → β} {S' : List α} {tl' : TE} {p p' : Addr} {xs xs' : List V} {j j' : Nat} {vs vs1 : List Nat} (m : Mon P) (hR : Stay R) (h : Ev tl σ H (.ref p)) (hs : SqT K H p xs) (hx : Paired (fun x i => P i x H) xs S) (hs' : SqT K H p' xs') (hx' : Paired (fun x i => P i x H) xs' S')
    (hz : S.length ≤ 200) (hz' : S'.length ≤ 200) (hw : ∀ x, wipe ((wipe σ vs).set j (some x)) vs = wipe σ vs) (hw1 : ∀ x y, wipe ((wipe ((wipe σ vs).set j (some x)) vs1).set j' (some y)) vs1 = wipe ((wipe σ vs).set j (some x)) vs1) (h' : ∀ x H1, Ex H H1 → Ev tl' ((wipe σ vs).set j (some x)) H1 (.ref p'))
    (he : ∀ x y a b H1, Ex H H1 → P a x H1 → P b y H1 → EvX te ((wipe ((wipe σ vs).set j (some x)) vs1).set j' (some y)) H1 (R (c a b))) :
    EvN (tLc2 (iTup K tl) (gName j) tYes (iTup K tl') (gName j') tYes te vs vs1) σ H (LAt R (S.flatMap fun a => S'.map (c a))) := fun H0 e0 Q q => h H0 e0 _ fun H1 e1 => by
  have e01 := e0.trans e1
  have hlen : xs.length = S.length := Paired.length hx
  have hlen' : xs'.length = S'.length := Paired.length hx'
  have bound : ∀ k, ((S.take k).flatMap fun a => S'.map (c a)).length ≤ 40000 := fun k => by
    have : ∀ T : List α, (T.flatMap fun a => S'.map (c a)).length = T.length * S'.length := fun T => by
      induction T with
      | nil => simp
      | cons a r ih => rw [List.flatMap_cons, List.length_append, ih, List.length_map, List.length_cons, Nat.add_mul]; omega
    rw [this]
    have h1 : (S.take k).length ≤ 200 := Nat.le_trans (by rw [List.length_take]; omega) hz
    calc (S.take k).length * S'.length ≤ 200 * 200 := Nat.mul_le_mul h1 hz'
      _ ≤ 40000 := by decide
  refine ⟨p, rfl, ⟨xs, ex_t e01 hs⟩, fun D hD => ?_⟩
  let J : Nat → List β → Hp → Prop := fun _ T H' => Ex H1 H' ∧ ∃ ys, H' D = some (.lst ys) ∧ Paired (fun y b => R b y H') ys T
  refine ⟨fun i mm H' => mm = xs.length - i ∧ i ≤ xs.length ∧ J i ((S.take i).flatMap fun a => S'.map (c a)) H', ⟨xs.length, by simp, Nat.zero_le _, Ex.new hD, [], upd_same, .nil⟩, ?_⟩
  rintro i mm H' ⟨rfl, hi, ex, ys, hys, pys⟩
  have ex' := e01.trans ex
  by_cases hlt : i < xs.length
  · obtain ⟨a, ha, pa⟩ := pr_at hx (List.getElem?_eq_getElem hlt)
    have hia : i < S.length := (List.getElem?_eq_some_iff.mp ha).1
    have tk : S.take (i + 1) = S.take i ++ [a] := by rw [List.take_succ_eq_append_getElem hia, (List.getElem?_eq_some_iff.mp ha).2]
    refine .inr ⟨⟨xs, _, ex_t ex' hs, List.getElem?_eq_getElem hlt⟩, J (i + 1) ((S.take (i + 1)).flatMap fun a => S'.map (c a)), fun H2 z => ⟨xs.length - (i + 1), by omega, rfl, hlt, z⟩, fun x H2 y2 => ?_⟩
    obtain ⟨rfl, hxa⟩ := y2
    have ex1 : x = xs[i] := by
      have := hxa xs (ex_t ex' hs)
      rw [List.getElem?_eq_getElem hlt] at this
      exact (Option.some.inj this).symm
    subst ex1
    refine ⟨hw _, ?_⟩
    refine yes_of ?_
    refine h' _ H2 ex' H2 (Ex.refl H2) _ fun H3 e3 => ⟨p', rfl, ⟨xs', ex_t (ex'.trans e3) hs'⟩, ?_⟩
    refine ⟨fun k mm H4 => mm = xs'.length - k ∧ k ≤ xs'.length ∧ J k (((S.take i).flatMap fun a => S'.map (c a)) ++ (S'.take k).map (c a)) H4, ⟨xs'.length, by simp, Nat.zero_le _, ex.trans e3, ys, e3 _ _ hys, ?_⟩, ?_⟩
    · rw [List.take_zero, List.map_nil, List.append_nil]
      exact Paired.mapP pys fun _ _ z => hR _ _ _ _ D ys hys (Kp.of e3) z
    · rintro k mm H4 ⟨rfl, hk, exk, zs, hzs, pzs⟩
      have exk' := e01.trans exk
      by_cases hlt' : k < xs'.length
      · obtain ⟨b, hb, pb⟩ := pr_at hx' (List.getElem?_eq_getElem hlt')
        have hkb : k < S'.length := (List.getElem?_eq_some_iff.mp hb).1
        have tk' : S'.take (k + 1) = S'.take k ++ [b] := by rw [List.take_succ_eq_append_getElem hkb, (List.getElem?_eq_some_iff.mp hb).2]
        refine .inr ⟨⟨xs', _, ex_t exk' hs', List.getElem?_eq_getElem hlt'⟩, J (k + 1) (((S.take i).flatMap fun a => S'.map (c a)) ++ (S'.take (k + 1)).map (c a)), fun H5 z => ⟨xs'.length - (k + 1), by omega, rfl, hlt', z⟩, fun y H5 y5 => ?_⟩
        obtain ⟨rfl, hyb⟩ := y5
        have ey : y = xs'[k] := by
          have := hyb xs' (ex_t exk' hs')
          rw [List.getElem?_eq_getElem hlt'] at this
          exact (Option.some.inj this).symm
        subst ey
        refine ⟨hw1 _ _, ?_⟩
        refine yes_of ?_
        refine he _ _ a b H5 exk' (m _ _ _ _ exk' pa) (m _ _ _ _ exk' pb) H5 (Ex.refl H5) _ fun v H6 e6 r => ⟨zs, e6 _ _ hzs, ?_, (fun b' o z => ?_), zs ++ [v], upd_same, ?_⟩
        · have h1 := Paired.length pzs
          have h2 := bound (i + 1)
          rw [tk, List.flatMap_append, List.length_append] at h2
          rw [List.length_append, List.length_map, List.length_take] at h1
          simp only [List.flatMap_cons, List.flatMap_nil, List.append_nil, List.length_map] at h2
          exact sz_lt (by omega)
        · have nb : b' ≠ D := ne_of_none z hD
          exact (upd_ne nb).trans (e6 _ _ (exk _ _ z))
        · have kk : Kp D H6 (upd H6 D (.lst (zs ++ [v]))) := Kp.set (Kp.refl _ _)
          rw [tk', List.map_append, ← List.append_assoc]
          exact pr_app (Paired.mapP pzs fun _ _ z => hR _ _ _ _ D zs (e6 _ _ hzs) kk (hR _ _ _ _ D zs hzs (Kp.of e6) z)) (.cons (hR _ _ _ _ D zs (e6 _ _ hzs) kk r) .nil)
      · have ek : k = xs'.length := by omega
        subst ek
        refine .inl ⟨⟨xs', ex_t exk' hs', Nat.le_refl _⟩, exk, zs, hzs, ?_⟩
        rw [tk, List.flatMap_append]
        simp only [List.flatMap_cons, List.flatMap_nil, List.append_nil]
        rw [hlen', List.take_length] at pzs
        exact pzs
  · have ei : i = xs.length := by omega
    subst ei
    refine .inl ⟨⟨xs, ex_t ex' hs, Nat.le_refl _⟩, q D H' (fresh_back e1 hD) (e1.trans ex) ⟨D, ys, rfl, hys, ?_⟩⟩
    rw [hlen, List.take_length] at pys
    exact pys
end
end Way

/-! C(e, .., k = v, ..) where what __init__ raises is wished for at the caller's slots -/
namespace Way
open PySem PySem.Spec PyProof.Rows L2
def tMakeKS (C : Addr) (n m : Nat) (sp : Sp) (gV : List V → List V → List V) (E : L2.St → XK) (t tk : TA) : TE := fun σ H Q => t σ H fun vs H1 => tk σ H1 fun zs H2 => vs.length = n ∧ zs.length = m ∧ ∀ x dx, H2 x = none → H2 dx = none → dx ≠ x →
  sp (gV (.ref x :: vs) zs) (upd (upd H2 dx (.own x)) x (.ins C dx [])) (fun v H3 => v = .non ∧ Q (.ref x) H3) (E σ)
section
variable {X : Cx} {CX : CXT} {k n : Nat} {f C : Addr} {fd : FuncData} {ps ks : List Str} {sp : Sp} {E : L2.St → XK} {x : Str} {p pos : Pos} {e : Expr} {es : List Expr} {kws : List Keyword} {t tk : TA} {g : List Value → List Value → List Value} {gV : List V → List V → List V}
theorem run_makeKS {pins : List (Addr × Obj)} {σ : L2.St} {H : Hp} {s : Shared} {Q : VK} {us ws : List Value} {vs zs : List V} (M : Mk X.K C f) (F : FnOk X.prog X.w X.K X.mg X.base CX k f fd ps sp) (hr : Room (k + 1) X.A) (hb : KBn X.K fd ps (n + 1) ks g gV) (hx : PassesAt CX X σ (E σ))
    (I : Inv X pins σ H s) (r : Vals vs us) (rz : Vals zs ws) (l1 : vs.length = n) (l2 : zs.length = ks.length)
    (h : ∀ x dx, H x = none → H dx = none → dx ≠ x → sp (gV (.ref x :: vs) zs) (upd (upd H dx (.own x)) x (.ins C dx [])) (fun v H2 => v = .non ∧ Q (.ref x) H2) (E σ)) :
    wpAny (model X.prog X.w) X.A (call (.ref C) us (ks.zip ws)) (EP X pins σ Q) X.xe s := by
  have hne : s.heap.objs.size ≠ s.heap.objs.size + 1 := Nat.ne_of_lt (Nat.lt_succ_self _)
  have I2 := Inv.made (C := C) I
  have ra : Vals (V.ref (s.heap.objs.size + 1) :: vs) (Value.ref (s.heap.objs.size + 1) :: us) := .cons rfl r
  have na : (Value.ref (s.heap.objs.size + 1) :: us).length = n + 1 := by rw [List.length_cons, ← r.length, l1]
  refine wpAny_call (make_map (f := f) I.kIn M.makes M.init (beq_iff_eq.mp M.fn) (codeAny_mono (F.run _ X.stack _ _ ⟨Value.ref (s.heap.objs.size + 1) :: us, ks.zip ws⟩ _ _ _ (E σ) (hr.make C us (ks.zip ws)) (I2.env0.make C us (ks.zip ws))
    (hb.to _ _ ws I2.kIn na (rz.length.symm.trans l2)) (hb.rel ra rz) (h _ _ (I.hok.fresh (Nat.le_succ _)) (I.hok.fresh (Nat.le_refl _)) hne)) fun r s' hq => ?_))
  match r, hq with
  | .error e, hq => exact hx pins _ _ e s' I2 hq
  | .ok (.ret u), hq =>
    obtain ⟨v, H', I3, rv, ev, q3⟩ := I2.after hq
    subst ev
    exact ⟨rv, V.ref (s.heap.objs.size + 1), H', I3, rfl, q3⟩
  | .ok .next, hq => exact False.elim hq
  | .ok .brk, hq => exact False.elim hq
  | .ok .cont, hq => exact False.elim hq
theorem pe_makeKS (M : Mk X.K C f) (F : FnOk X.prog X.w X.K X.mg X.base CX k f fd ps sp) (hr : Room (k + 1) X.A) (hg : Gl X x) (hm : X.mg x = some (.ref C)) (hb : KBn X.K fd ps (n + 1) ks g gV) (hx : ∀ σ, PassesAt CX X σ (E σ)) (ha : PA X (e :: es) t) (hkw : PK X kws tk)
    (hall : (backToKw pos (keywordEach kws X.env)).all (·.1.isSome) = true := by rfl) (hks : (backToKw pos (keywordEach kws X.env)).filterMap (·.1) = ks := by rfl) (hdb : (x == ("__debug__" : Str)) = false := by decide)
    (he : starEach (e :: es) X.env = (false, eval e X.env) :: starEach es X.env := by rfl) (hpl : ((backTo pos (starEach (e :: es) X.env)).any (·.1) || (backToKw pos (keywordEach kws X.env)).any (·.1.isNone)) = false := by rfl) :
    PE X (.Call (.Name x p) (e :: es) kws pos) (tMakeKS C n ks.length sp gV E t tk) := by
  refine ⟨fun pins s σ H Q I h => ?_⟩
  refine wpAny_Call_Name_kw (ld_glob I hg hm ?_ hdb)
  refine PySem.W.callWith_KW (h₀ := X.base) I.ok.mod.kin M.kp hall (thn (ha.run pos pins s σ H _ I h) fun us s1 ⟨vs, H1, I1, r, q⟩ => ?_) hpl he
  refine thn (hkw.run pos pins s1 σ H1 _ I1 q) fun ws s2 ⟨zs, H2, I2, rz, l1, l2, q2⟩ => ⟨I2.kIn, ?_⟩
  rw [hks]
  exact run_makeKS M F hr hb (hx σ) I2 r rz l1 l2 q2
end
/-- C(e, ..), the rest by defaults -/
def tMakeSD (C : Addr) (sp : Sp) (dvs : List V) (E : L2.St → XK) (t : TA) : TE := fun σ H Q => t σ H fun vs H1 => ∀ x dx, H1 x = none → H1 dx = none → dx ≠ x →
  sp (.ref x :: vs ++ dvs) (upd (upd H1 dx (.own x)) x (.ins C dx [])) (fun v H2 => v = .non ∧ Q (.ref x) H2) (E σ)
section
variable {X : Cx} {CX : CXT} {k : Nat} {f C : Addr} {fd : FuncData} {ps : List Str} {sp : Sp} {dvs : List V} {ds : List Value} {E : L2.St → XK} {x : Str} {p pos : Pos} {e : Expr} {es : List Expr} {t : TA}
theorem pe_makeSD (M : Mk X.K C f) (F : FnOk X.prog X.w X.K X.mg X.base CX k f fd ps sp) (hr : Room (k + 1) X.A) (hg : Gl X x) (hm : X.mg x = some (.ref C)) (hb : Binds X.K fd ps ds) (hd : Vals dvs ds) (hx : ∀ σ, PassesAt CX X σ (E σ)) (ha : PA X (e :: es) t)
    (hdb : (x == ("__debug__" : Str)) = false := by decide) (he : starEach (e :: es) X.env = (false, eval e X.env) :: starEach es X.env := by rfl) (hpl : (backTo pos (starEach es X.env)).any (·.1) = false := by rfl) :
    PE X (.Call (.Name x p) (e :: es) [] pos) (tMakeSD C sp dvs E t) := by
  refine ⟨fun pins s σ H Q I h => ?_⟩
  refine wpAny_Call_Name_kw (ld_glob I hg hm ?_ hdb)
  refine PySem.W.callWith_K (h₀ := X.base) I.ok.mod.kin M.kp (thn (ha.run pos pins s σ H _ I h) fun us s1 ⟨vs, H1, I1, r, q⟩ => ⟨I1.kIn, ?_⟩) he hpl
  have hne : s1.heap.objs.size ≠ s1.heap.objs.size + 1 := Nat.ne_of_lt (Nat.lt_succ_self _)
  have I2 := Inv.made (C := C) I1
  have ra : Vals (V.ref (s1.heap.objs.size + 1) :: vs ++ dvs) (Value.ref (s1.heap.objs.size + 1) :: us ++ ds) := Vals.append (.cons rfl r) hd
  have hq := q _ _ (I1.hok.fresh (Nat.le_succ _)) (I1.hok.fresh (Nat.le_refl _)) hne
  refine wpAny_call (make_map (f := f) I1.kIn M.makes M.init (beq_iff_eq.mp M.fn) (codeAny_mono (F.run _ X.stack _ _ ⟨Value.ref (s1.heap.objs.size + 1) :: us, []⟩ _ _ _ (E σ) (hr.make C us []) (I2.env0.make C us [])
    (hb _ (Value.ref (s1.heap.objs.size + 1) :: us) I2.kIn (by rw [← F.len _ _ _ _ hq]; exact ra.length.symm)) ra hq) fun r s' hq' => ?_))
  match r, hq' with
  | .error e, hq => exact hx σ pins _ _ e s' I2 hq
  | .ok (.ret u), hq =>
    obtain ⟨v, H', I3, rv, ev, q3⟩ := I2.after hq
    subst ev
    exact ⟨rv, V.ref (s1.heap.objs.size + 1), H', I3, rfl, q3⟩
  | .ok .next, hq => exact False.elim hq
  | .ok .brk, hq => exact False.elim hq
  | .ok .cont, hq => exact False.elim hq
end
end Way

/-! len(set(texts)) -/
namespace Way
open PySem PySem.Spec PyProof.Rows L2
/-- how many of the first i are met for the first time -/
def dn (xs : List Str) : Nat → Nat
  | 0 => 0
  | i + 1 => if (xs.take i).any (· == xs.getD i Str.empty) then dn xs i else dn xs i + 1
theorem dn_le (xs : List Str) : ∀ i, dn xs i ≤ i
  | 0 => Nat.le_refl _
  | i + 1 => by
    have := dn_le xs i
    unfold dn
    split <;> omega
theorem take_any (xs : List Str) {i : Nat} (hi : i < xs.length) (k : Str) : (xs.take (i + 1)).any (· == k) = ((xs.take i).any (· == k) || decide (k = xs.getD i Str.empty)) := by
  have e1 : xs.take (i + 1) = xs.take i ++ [xs[i]] := by rw [List.take_add_one, List.getElem?_eq_getElem hi]; rfl
  have e2 : xs.getD i Str.empty = xs[i] := by rw [List.getD_eq_getElem?_getD, List.getElem?_eq_getElem hi]; rfl
  rw [e1, e2, List.any_append]
  congr 1
  show ((xs[i] == k) || false) = decide (k = xs[i])
  rw [Bool.or_false]
  by_cases h : k = xs[i]
  · rw [decide_eq_true h, h]; exact beq_self_eq_true _
  · rw [decide_eq_false h]; exact beq_eq_false_iff_ne.mpr fun q => h q.symm
section
variable {prog : Program} {w : World} {A : Around} {R : Result → Shared → Prop} {I : Addr} {fp wr : List Addr} {G : Array GenState → Array GenState → Prop} {n : Nat} {P : Nat → Value → Prop} {St : Nat → Shared → Prop}
/-- the set at S holds the first i of xs -/
def HoldsS (prog : Program) (w : World) (S : Addr) (xs : List Str) (i : Nat) (h : Heap) : Prop := h.SetOf (PySem.strKind prog w) S (fun k => (xs.take i).any (· == k)) (dn xs i)
theorem HoldsS.at {S : Addr} {xs : List Str} {i : Nat} {h h' : Heap} (x : HoldsS prog w S xs i h) (k : ∀ o, h.get? S = some o → h'.get? S = some o) : HoldsS prog w S xs i h' := by
  obtain ⟨o, es, ep, t, ho, rest⟩ := x
  exact ⟨o, es, ep, t, k _ ho, rest⟩
theorem loopT (W : WalksS prog w A.in1 I fp wr G n P St) (S : Addr) (hSf : S ∉ fp) (xs : List Str) (hsz : xs.length = n) (hn : n ≤ 4000) (hval : ∀ i v, P i v → ∃ t, v = .str (xs.getD i Str.empty) t) :
    ∀ (k i : Nat) (s : Shared), n - i = k → i ≤ n → St i s → HoldsS prog w S xs i s.heap → (∀ s', Moved (S :: wr) G s s' → HoldsS prog w S xs n s'.heap → R (.ok (.ret .none)) s') →
      codeAny (model prog w) A (.builtin "set.update.loop" ⟨[.ref S, .ref I], []⟩) R s := by
  have hSw : S ∉ wr := fun h => hSf (W.sub _ h)
  have hup : ∀ b ∈ wr, b ∈ S :: wr := fun b hb => List.mem_cons_of_mem _ hb
  intro k
  induction k with
  | zero =>
    intro i s hk hi hst hS hR
    obtain rfl : i = n := by omega
    refine codeAny_builtin PyProof.Rows.F.entry_set_update_loop ?_
    rw [Around.under_plainId PyProof.Rows.F.plain_set_update_loop _]
    show wpAny _ A.in1 (pyNext (.ref I) >>= _) _ _ s
    refine wpAny_bind (W.done s _ _ hst fun s' hm => ?_)
    show wpAny _ A.in1 (ret Value.none) _ _ s'
    exact wpAny_pure (hR s' (hm.mono hup) (hS.at fun o e => hm.heap S o hSw e))
  | succ k ih =>
    intro i s hk hi hst hS hR
    have hlt : i < n := by omega
    refine codeAny_builtin PyProof.Rows.F.entry_set_update_loop ?_
    rw [Around.under_plainId PyProof.Rows.F.plain_set_update_loop _]
    show wpAny _ A.in1 (pyNext (.ref I) >>= _) _ _ s
    refine wpAny_bind (W.item i s _ _ hlt hst fun v s' hP hst' hm => ?_)
    obtain ⟨t, rfl⟩ := hval i v hP
    have hS' := hS.at (h' := s'.heap) fun o e => hm.heap S o hSw e
    show wpAny _ A.in1 (holding [Value.str (xs.getD i Str.empty) t] (setAdd S (.str (xs.getD i Str.empty) t)) >>= _) _ _ s'
    refine wpAny_bind (wpAny_holding ?_)
    unfold setAdd
    refine wpAny_holding ?_
    refine wpAny_bind ((PySem.strKind prog w).pyHash (k := xs.getD i Str.empty) (strKind_is _ _ _ _) ?_)
    refine wpAny_setAddHashed_of (knd := PySem.strKind prog w) (s := { s' with toks := s'.toks + 1 }) (strKind_is _ _ _ _) rfl hS' (by have := dn_le xs i; unfold scanBound; omega) fun h' hsb hS2 => ?_
    have hSi : HoldsS prog w S xs (i + 1) h' := by
      refine SetOf_congr hS2 (fun k' => (take_any xs (by omega) k').symm) ?_
      first
        | rfl
        | (show _ = if _ then _ else _; rfl)
    have hb : ∀ b, b ≠ S → h'.get? b = s'.heap.get? b := fun b h => hsb.2 b h
    refine wpAny_pure ⟨plainId_quiet PyProof.Rows.F.plain_set_update_loop _, ih (i + 1) _ (by omega) hlt (W.frame _ s' _ _ hst' (Nat.le_succ _) fun b hb' o e => ?_) hSi fun s'' hm'' hS'' => ?_⟩
    · exact (hb b fun z => hSf (z ▸ hb')).trans e
    · exact hR s'' (Moved.trans W.gtrans ((hm.mono hup).then_heap (Nat.le_succ _) fun b o hb' e => (hb b fun z => hb' (z ▸ List.mem_cons_self)).trans e) hm'') hS''
end
section
variable {prog : Program} {w : World} {A : Around} {E : Value → Shared → Prop} {s : Shared}
set_option maxHeartbeats 3200000 in
theorem call_setT {l : Addr} {items : Array Value} {xs : List Str} {Q : Value → Shared → Prop} (hh : A.handled = none) (hl : s.heap.IsList l items) (hi : PyProof.Rows.StrsAre items.toList xs) (hn : items.size ≤ 4000)
    (h : ∀ (h' : Heap) (tk : Nat), HoldsS prog w s.heap.objs.size xs items.size h' → (∀ b o, b < s.heap.objs.size → s.heap.get? b = some o → h'.get? b = some o) → Q (.ref s.heap.objs.size) { s with heap := h', toks := tk }) :
    wpAny (model prog w) A (call (.type "set") [.ref l]) Q E s := by
  obtain ⟨c, tl, hmro⟩ := PySem.F.called_set.mro
  have hmade := PySem.F.called_set.made
  have hsub := PySem.F.called_set.sub
  refine wpAny_call (codeAny_of_tree ?_)
  show wpAny _ _ (callAny (.type "set") _) _ _ _
  refine wpAny_pure ⟨Code.quiet_builtin _ (by decide +kernel), codeAny_builtin PySem.F.entry_type_call ?_⟩
  rw [Around.under_plain (weight_type_call_type "set" [.ref l] []) rfl]
  have h1 := PySem.F.called_set.notType
  have h2 := PySem.F.called_set.canCreate
  have hct := PySem.F.typeCall_set_1 (.ref l)
  repeat (any_goals (first | assumption | wp_step))
  let N : Bool → Heap := fun led => s.heap.push { cls := .type "set", dict := none, data := .set #[] 0 (.fresh 0 0 led) }
  refine codeAny_mono (code_set_new_1 (.ref l) (E := E) (Q₁ := fun obj s₁ => ∃ led : Bool, obj = .ref s.heap.objs.size ∧ s₁ = { s with heap := N led }) fun led => ⟨led, rfl, rfl⟩) fun r s₁ hr => ?_
  match r, hr with
  | .error e, hr => exact hr
  | .ok .next, hr => exact hr.elim
  | .ok .brk, hr => exact hr.elim
  | .ok .cont, hr => exact hr.elim
  | .ok (.ret obj), ⟨led, e1, e2⟩ =>
    subst e1 e2
    have hS : (N led).get? s.heap.objs.size = some { cls := .type "set", dict := none, data := .set #[] 0 (.fresh 0 0 led) } := Heap.get?_push_size _ rfl
    have hT : Shared.TypeIs { s with heap := N led } (.ref s.heap.objs.size) "set" := ⟨_, hS, rfl⟩
    have hz : (N led).objs.size = s.heap.objs.size + 1 := Heap.size_push ..
    have hli := PySem.F.called_set.init.lookup
    have hbi := PySem.F.called_set.init.bind (.ref s.heap.objs.size)
    repeat (any_goals (first | assumption | wp_step))
    refine codeAny_mono (codeAny_call_builtin (R := wants (fun r s₂ => r = .none ∧ ∃ h' tk, s₂ = { s with heap := h', toks := tk } ∧ HoldsS prog w s.heap.objs.size xs items.size h' ∧
        (∀ b o, b < s.heap.objs.size → s.heap.get? b = some o → h'.get? b = some o)) E) PySem.F.called_set.init.plain PySem.F.entry_set_init (check_set_init_1 hT ?_)) fun r₂ s₂ hr₂ => ?_
    · obtain ⟨⟨ocls, odict, odata, oslots⟩, hol, hcl, nl, hdl⟩ := hl
      simp only at hcl hdl
      subst hcl hdl
      have hlS : l < s.heap.objs.size := Heap.lt_size hol
      have hol' : (N led).get? l = some { cls := .type "list", dict := odict, data := .seq items nl, slots := oslots } := Heap.get?_push_of_some _ hol
      have hsls := PySem.F.sub_list_set
      have hslf := PySem.F.sub_list_frozenset
      have hne : (Value.type "list" == Value.type "dict") = false := by decide
      have hl1 : (N led).IsList l items := ⟨_, hol', rfl, nl, rfl⟩
      unfold Builtin.«set.__init__» noKeywords Builtin.Frozenset.updateFrom
      generalize hPI : pyIter = PI
      wp_walk
      subst hPI
      refine wpAny_pyIter_list hl1 ?_
      refine wpAny_bind (wpAny_runValue ?_)
      have hh3 : A.in1.in1.in1.handled = none := by simp [hh]
      have hneI : l ≠ (N led).objs.size := by rw [hz]; exact Nat.ne_of_lt (Nat.lt_succ_of_lt hlS)
      have hSf : s.heap.objs.size ∉ [(N led).objs.size, l] := by
        rw [hz]; simp only [List.mem_cons, List.mem_singleton, List.not_mem_nil, or_false, not_or]
        exact ⟨Nat.ne_of_lt (Nat.lt_succ_self _), Nat.ne_of_gt hlS⟩
      have hsz : xs.length = items.size := by rw [← StrsAre.len_eq hi, Array.length_toList]
      refine loopT ((Walks.list hh3 _ l hneI items).toS) s.heap.objs.size hSf xs hsz hn (fun i v hv => SS.strs_at hi i v (by rw [Array.getElem?_toList]; exact hv)) (items.size - 0) 0 _ (by omega) (Nat.zero_le _) ⟨⟨_, Heap.get?_push_size _ rfl, rfl, rfl⟩, (hl1.push _)⟩ ?hS0 ?hR
      case hS0 =>
        have hget : ((N led).push { cls := .type "list_iterator", data := .fields #[.ref l, .int 0 0] }).get? s.heap.objs.size = some { cls := .type "set", dict := none, data := .set #[] 0 (.fresh 0 0 led) } := Heap.get?_push_of_some _ hS
        exact PyProof.Rows.SetOf_congr ((PyProof.Rows.setObjOf_fresh (knd := PySem.strKind prog w) led).setOf hget (by unfold scanBound; omega)) (fun _ => rfl) rfl
      case hR =>
        intro s' hm hS'
        obtain ⟨h', g', d', tk', os'⟩ := s'
        obtain rfl : g' = s.gens := hm.gens
        obtain rfl : d' = s.drawn := hm.drawn
        obtain rfl : os' = s.os := hm.os
        show wpAny _ _ _ _ _ _
        refine wpAny_pure ?_
        show wpAny _ _ (ret Value.none) _ _ _
        refine wpAny_pure ⟨rfl, h', tk', rfl, hS', fun b o hb e => ?_⟩
        refine hm.heap b o ?_ (Heap.get?_push_of_some _ (Heap.get?_push_of_some _ e))
        rw [hz]
        simp only [List.mem_cons, List.mem_singleton, List.not_mem_nil, or_false, not_or]
        exact ⟨Nat.ne_of_lt hb, Nat.ne_of_lt (Nat.lt_succ_of_lt hb)⟩
    · match r₂, hr₂ with
      | .error e, hr => exact hr
      | .ok .next, hr => exact hr.elim
      | .ok .brk, hr => exact hr.elim
      | .ok .cont, hr => exact hr.elim
      | .ok (.ret r), ⟨e1, h', tk, e2, hS', hk'⟩ =>
        subst e1 e2
        repeat (any_goals (first | assumption | wp_step))
        exact h _ _ hS' hk'
end
def tLenSetT (K : PySem.W.Frag) (ta : TE) : TE := fun σ H Q => ta σ H fun x H1 => ∃ (l : Addr) (xs : List Str), x = .ref l ∧ SqL K H1 l (xs.map V.str) ∧ xs.length ≤ 4000 ∧ Q (.int (dn xs xs.length : Nat)) H1
theorem pe_lenSetT {X : Cx} {a : Expr} {ta : TE} {p p2 q pos : Pos} (hc : X.calm = true) (hg : Gl X "len") (hm : X.mg "len" = none) (hg2 : Gl X "set") (hm2 : X.mg "set" = none) (ha : PE X a ta)
    (na : starEach [a] X.env = (false, eval a X.env) :: starEach [] X.env := by rfl) : PE X (.Call (.Name "len" p) [.Call (.Name "set" p2) [a] [] q] [] pos) (tLenSetT X.K ta) := by
  refine ⟨fun pins s σ H Q I h => ?_⟩
  refine Call_ (ld_blt I hg hm boot_len ?_)
  refine PyProof.Rows.callWith_builtin1 (PyProof.Rows.args_cons ?_ rfl) rfl rfl
  refine Call_ (ld_blt I hg2 hm2 boot_set ?_)
  refine PyProof.Rows.callWith_type1 (PyProof.Rows.args_cons (thn (ha.run pins s σ H _ I h) fun v s1 ⟨x, H1, I1, r1, l, xs, ex, hq, h1, q1⟩ => PyProof.Rows.args_nil ?_) na) na rfl
  subst ex
  cases r1
  obtain ⟨its, r, pl, hz⟩ := I1.list hq
  have hl : its.toArray.size = xs.length := by rw [List.size_toArray, ← r.length, List.length_map]
  refine call_setT (I1.ok.hd hc) pl.isList (by simpa using strsAre_of r) (by omega) fun h' tk hS hk => PyProof.Rows.args_nil ?_
  rw [hl] at hS
  obtain ⟨o, es, ep, t, ho, hex, hd, _, _, _, hf, hn⟩ := hS
  have I2 : Inv X pins σ H1 { s1 with heap := h', toks := tk } := I1.kept fun b o e => hk b o (Heap.lt_size e) e
  have hdn := dn_le xs xs.length
  refine call_len_set ho hex hd hf (by rw [hn]; unfold scanBound at *; omega) ⟨.int (dn xs xs.length : Nat), H1, I2.tok _, ⟨_, by rw [hn]⟩, q1⟩
/-! l.count(text) -/
def eqs (k : Str) : Value → Bool
  | .str y _ => y == k
  | _ => false
def rCntS (K : PySem.W.Frag) : V → List V → Hp → VK → Prop := fun x xs H Q => ∃ (p : Addr) (ns : List Str) (k : Str), x = .ref p ∧ xs = [.str k] ∧ SqL K H p (ns.map V.str) ∧ Q (.int (ns.count k : Nat)) H
end Way

/-! values of any plain kind, told as data -/
namespace Way
open PySem PySem.Spec PyProof.Rows L2 Evl
theorem eqs_gives {k : Str} {t : Tok} : ∀ {us : List Value} {ns : List Str}, StrsAre us ns → ∀ y ∈ us, MeetsSeq.EqGives y (.str k t) (eqs k y)
  | _, _, .nil => fun y hy => by cases hy
  | _, _, .cons n t' h => fun y hy => by
    rcases List.mem_cons.mp hy with e | e
    · rw [e]
      have z := SeqRoads2.EqGives.str n k t' t
      rw [SeqAt.str_beq] at z
      exact z
    · exact eqs_gives h y e
theorem eqs_count {k : Str} : ∀ {us : List Value} {ns : List Str}, StrsAre us ns → us.countP (eqs k) = ns.count k
  | _, _, .nil => rfl
  | _, _, .cons n t h => by
    have ih := eqs_count (k := k) h
    rw [List.countP_cons, List.count_cons, ih] <;> rfl
theorem mt_cntS {X : Cx} : MtR X "list.count" (rCntS X.K) := by
  intro pins s σ H x xs v us Q I rx rxs h
  obtain ⟨p, ns, k, rfl, rfl, hs, q⟩ := h
  cases rx
  obtain ⟨u, rfl, ru⟩ := rxs.one
  obtain ⟨t, rfl⟩ := ru
  obtain ⟨its, rv, ⟨⟨cls, dd, data, sl⟩, n, ho, hc, hdn, hd⟩, hlen⟩ := I.list hs
  simp only at hc hd
  subst hc hd
  have hi := strs_of_vals rv
  refine call_meets PySem.F.slot_list_count ⟨_, ho, rfl⟩ PySem.F.entry_list_count (PySem.F.args_list_count_2 _ _)
    (SeqAt.list_countAt p its.toArray n dd sl (.str k t) (eqs k)) ⟨ho, fun y hy => (eqs_gives hi y (by simpa using hy)).at _ _, ?_⟩
  have ec : its.toArray.toList.countP (eqs k) = ns.count k := eqs_count hi
  refine ⟨.int (ns.count k : Nat), H, I.tok _, ⟨s.toks, ?_⟩, q⟩
  show Value.int ((its.toArray.toList.countP (eqs k) : Nat) : Int) s.toks = Value.int ((ns.count k : Nat) : Int) s.toks
  rw [ec]
/-! what repr shows -/
inductive Shn (K : PySem.W.Frag) (H : Hp) : V → PyData → Prop
  | dp {v : V} {d : PyData} (h : Dp K H v d) (n : d.hasDict = false) : Shn K H v d
  | emp {a : Addr} (h : H a = some (.dK [])) : Shn K H (.ref a) (.dict [])
  | bad {a b : Addr} {x : Str} (h : H a = some (.tup [.str x, .ref b])) (e : H b = some (.dK [])) : Shn K H (.ref a) (.tuple [.str x, .dict []])
theorem Shn.mono {K : PySem.W.Frag} {H H' : Hp} {v : V} {d : PyData} (dm : Dp K H v d → Dp K H' v d) (e : Ex H H') (h : Shn K H v d) : Shn K H' v d := by
  cases h with
  | dp h n => exact .dp (dm h) n
  | emp h => exact .emp (e _ _ h)
  | bad h q => exact .bad (e _ _ h) (e _ _ q)
theorem emp_reads {X : Cx} {pins : List (Addr × Obj)} {σ : L2.St} {H : Hp} {s : Shared} {a : Addr} (I : Inv X pins σ H s) (h : H a = some (.dK [])) : Reads s.heap (.ref a) (.dict []) [a] ∧ sysModules ∉ [a] := by
  obtain ⟨_, hn, vs, kv, o, es, ep, e1, e2, e3, _, e4, _⟩ := dk_of I.hok h
  cases kv
  have e5 : es.toList = [] := by
    generalize es.toList = l at e4
    cases e4
    rfl
  refine ⟨Reads.dict (as := []) (bs := []) e1 e2.1 e3 (by rw [e5]; exact ReadsAll.nil) (by rw [e5]; exact ReadsAll.nil), fun z => ?_⟩
  have z' : sysModules = a := by simpa using z
  rw [← z'] at hn
  simp at hn
section
variable {X : Cx} {k : Nat}
def rReprQ (K : PySem.W.Frag) : List V → Hp → VK → Prop := fun xs H Q => ∃ v d, xs = [v] ∧ Shn K H v d ∧ d.showable = true ∧ d.depth ≤ 60 ∧ d.shown.length ≤ sizeLine ∧ Q (.str d.shown) H
theorem call_reprU (hgd : X.A.guards = some []) (hun : X.A.units + 64 < cLine) : CallR X (.builtin "repr") (rReprQ X.K) := by
  intro pins s σ H xs us Q I r h
  obtain ⟨v, d, rfl, hd, hs, hdp, hsz, q⟩ := h
  obtain ⟨u, rfl, rx⟩ := vals1 r
  have deep : ∀ {a : Addr} {as : List Addr}, Reads s.heap (.ref a) d as → (d.hasDict = true → sysModules ∉ as) → wpAny (model X.prog X.w) X.A (call (.builtin "repr") [.ref a]) (EP X pins σ Q) X.xe s := fun {a as} rd hm =>
    repr_of_reads' rd hs hm hgd (by omega) (fun _ _ q => q) (fun h' u tk kp => ⟨.str d.shown, H, I.kept (t' := tk) kp, ⟨_, rfl⟩, q⟩) hsz
  cases hd with
  | emp h =>
    cases rx
    obtain ⟨r1, r2⟩ := emp_reads I h
    exact deep r1 fun _ => r2
  | @bad a b x h e =>
    cases rx
    obtain ⟨r1, r2⟩ := emp_reads I e
    obtain ⟨_, its, rv, o, h1, h2, n, h3⟩ := (show ObjOk X.prog X.w H s.heap a (.tup [.str x, .ref b]) from I.hok a _ h)
    cases rv with
    | cons ra rv =>
      cases rv with
      | cons rb rv =>
        cases rv
        obtain ⟨t, rfl⟩ := ra
        cases rb
        exact deep (Reads.tuple (as := [] ++ ([b] ++ [])) h1 h2 h3 (ReadsAll.cons (Reads.str x t) (ReadsAll.cons r1 ReadsAll.nil))) fun _ => by simpa using r2
  | dp hd hn =>
    cases hd with
    | non =>
      cases rx
      refine P.repr_of_none ?_
      exact ⟨.str "None", H, I.tok _, ⟨_, rfl⟩, by simpa only [PyData.shown] using q⟩
    | bl b =>
      cases rx
      refine P.repr_of_bool ?_
      exact ⟨.str (if b then "True" else "False"), H, I.tok _, ⟨_, rfl⟩, by simpa only [PyData.shown] using q⟩
    | int i =>
      obtain ⟨t, rfl⟩ := rx
      refine P.repr_of_int (by simpa [PyData.showable] using hs) ?_
      exact ⟨.str (Str.ofString (toString i)), H, I.tok _, ⟨_, rfl⟩, by simpa only [PyData.shown] using q⟩
    | str x =>
      obtain ⟨t, rfl⟩ := rx
      refine P.repr_of_str ?_ (by simpa only [PyData.shown] using hsz)
      exact ⟨.str (reprText x), H, I.tok _, ⟨_, rfl⟩, by simpa only [PyData.shown] using q⟩
    | lst h1 h2 =>
      obtain ⟨as, rd⟩ := Dp.reads I _ _ u (.lst h1 h2) rx
      cases rx
      exact deep rd (PyData.noDict_hsm hn)
    | tup h1 h2 =>
      obtain ⟨as, rd⟩ := Dp.reads I _ _ u (.tup h1 h2) rx
      cases rx
      exact deep rd (PyData.noDict_hsm hn)
theorem call_reprQ (hgd : X.A.guards = some []) (hr : Room k X.A) : CallR X (.builtin "repr") (rReprQ X.K) := call_reprU hgd hr.units
end
/-! plain values -/
def plC (c : Nat) : Bool := (decide (97 ≤ c) && decide (c ≤ 122)) || (decide (65 ≤ c) && decide (c ≤ 90)) || (decide (48 ≤ c) && decide (c ≤ 57)) || c == 32
def plS (x : Str) : Bool := x.cps.toList.all plC && decide (x.cps.size ≤ 20)
def plA : PyData → Bool
  | .none => true
  | .bool _ => true
  | .int i => decide (i.natAbs.log2 < 200)
  | .str x => plS x
  | _ => false
def plE : PyData → Bool
  | .list [] => true
  | d => plA d
def pl : PyData → Bool
  | .list ds => decide (ds.length ≤ 3) && ds.all plE
  | .tuple ds => decide (ds.length ≤ 3) && ds.all plE
  | d => plA d
/-- v is the plain value d -/
inductive PV (K : PySem.W.Frag) (H : Hp) : V → PyData → Prop
  | dp {v : V} {d : PyData} (h : Dp K H v d) (p : pl d = true) : PV K H v d
  | emp {a : Addr} (h : H a = some (.dK [])) : PV K H (.ref a) (.dict [])
def tyD : PyData → String
  | .none => "NoneType"
  | .bool _ => "bool"
  | .int _ => "int"
  | .str _ => "str"
  | .list _ => "list"
  | .tuple _ => "tuple"
  | .dict _ => "dict"
def isStr : PyData → Bool
  | .str _ => true
  | _ => false
def isBool : PyData → Bool
  | .bool _ => true
  | _ => false
def isInt : PyData → Bool
  | .int _ => true
  | _ => false
def isSq : PyData → Bool
  | .list _ => true
  | .tuple _ => true
  | _ => false
def isLs : PyData → Bool
  | .list _ => true
  | _ => false
section
variable {K : PySem.W.Frag} {H H' : Hp} {v : V} {d : PyData}
theorem ty_sqL {a : Addr} {xs : List V} (h : SqL K H a xs) : TyX K H (.ref a) (.type "list") := by
  rcases h with (h | ⟨o, h⟩) | ⟨o, its, n, h1, h2, _⟩
  · exact .base (.lst h)
  · exact .base (.frz h)
  · exact .kList h1 h2
theorem ty_sqT {a : Addr} {xs : List V} (h : SqT K H a xs) : TyX K H (.ref a) (.type "tuple") := by
  rcases h with (h | ⟨o, h⟩) | ⟨o, its, n, h1, h2, _⟩
  · exact .base (.tup h)
  · exact .fTuple h
  · exact .kTuple h1 h2
theorem PV.ty (h : PV K H v d) : TyX K H v (.type (tyD d)) := by
  cases h with
  | emp h => exact .base (.dK h)
  | dp h p =>
    cases h with
    | non => exact .base .non
    | bl b => exact .base (.bl b)
    | int i => exact .base (.int i)
    | str x => exact .base (.str x)
    | lst h1 h2 => exact ty_sqL h1
    | tup h1 h2 => exact ty_sqT h1
/-- what a change must keep -/
structure Kps (K : PySem.W.Frag) (H H' : Hp) : Prop where
  l : ∀ a xs, xs.length ≤ 3 → SqL K H a xs → SqL K H' a xs
  t : ∀ a xs, SqT K H a xs → SqT K H' a xs
  e : ∀ a, H a = some (.dK []) → H' a = some (.dK [])
theorem dpA_keep (p : plA d = true) (h : Dp K H v d) : Dp K H' v d := by
  cases h with
  | non => exact .non
  | bl b => exact .bl b
  | int i => exact .int i
  | str x => exact .str x
  | lst h1 h2 => simp [plA] at p
  | tup h1 h2 => simp [plA] at p
theorem dpE_keep (k : Kps K H H') (p : plE d = true) (h : Dp K H v d) : Dp K H' v d := by
  cases h with
  | non => exact .non
  | bl b => exact .bl b
  | int i => exact .int i
  | str x => exact .str x
  | tup h1 h2 => simp [plE, plA] at p
  | lst h1 h2 =>
    cases h2 with
    | nil => exact .lst (k.l _ _ (by simp) h1) .nil
    | cons a b => simp [plE, plA] at p
theorem dpAll_keep (k : Kps K H H') : ∀ {vs : List V} {ds : List PyData}, ds.all plE = true → DpAll K H vs ds → DpAll K H' vs ds
  | _, _, _, .nil => .nil
  | _, _, p, .cons a r => by
    rw [List.all_cons, Bool.and_eq_true] at p
    exact .cons (dpE_keep k p.1 a) (dpAll_keep k p.2 r)
theorem dpAll_len : ∀ {vs : List V} {ds : List PyData}, DpAll K H vs ds → vs.length = ds.length
  | _, _, .nil => rfl
  | _, _, .cons _ r => by rw [List.length_cons, List.length_cons, dpAll_len r]
theorem PV.keep (k : Kps K H H') (h : PV K H v d) : PV K H' v d := by
  cases h with
  | emp h => exact .emp (k.e _ h)
  | dp h p =>
    refine .dp ?_ p
    cases h with
    | non => exact .non
    | bl b => exact .bl b
    | int i => exact .int i
    | str x => exact .str x
    | lst h1 h2 =>
      simp only [pl, Bool.and_eq_true, decide_eq_true_eq] at p
      exact .lst (k.l _ _ (by rw [dpAll_len h2]; exact p.1) h1) (dpAll_keep k p.2 h2)
    | tup h1 h2 =>
      simp only [pl, Bool.and_eq_true, decide_eq_true_eq] at p
      exact .tup (k.t _ _ h1) (dpAll_keep k p.2 h2)
theorem Kps.of (e : Ex H H') : Kps K H H' := ⟨fun _ _ _ h => ex_l e h, fun _ _ h => ex_t e h, fun _ h => e _ _ h⟩
theorem PV.mono (e : Ex H H') (h : PV K H v d) : PV K H' v d := h.keep (.of e)
/-- at s stands nothing that a plain value holds -/
structure Off (H : Hp) (s : Addr) : Prop where
  l : ∀ xs, H s = some (.lst xs) → 3 < xs.length
  t : ∀ xs, H s ≠ some (.tup xs)
  f : ∀ o u, H s ≠ some (.frz o u)
  e : H s ≠ some (.dK [])
theorem Kps.kp {s : Addr} (o : Off H s) (k : Kp s H H') : Kps K H H' := by
  refine ⟨fun a xs hl h => ?_, fun a xs h => ?_, fun a h => ?_⟩
  · rcases h with (h | ⟨ob, h⟩) | h
    · exact .inl (.inl (k _ _ (fun z => by rw [z] at h; have := o.l _ h; omega) h))
    · exact .inl (.inr ⟨ob, k _ _ (fun z => by rw [z] at h; exact o.f _ _ h) h⟩)
    · exact .inr h
  · rcases h with (h | ⟨ob, h⟩) | h
    · exact .inl (.inl (k _ _ (fun z => by rw [z] at h; exact o.t _ h) h))
    · exact .inl (.inr ⟨ob, k _ _ (fun z => by rw [z] at h; exact o.f _ _ h) h⟩)
    · exact .inr h
  · exact k _ _ (fun z => by rw [z] at h; exact o.e h) h
theorem off_pen {s : Addr} {kv : Key × V} {kvs : List (Key × V)} (h : H s = some (.dK (kv :: kvs))) : Off H s :=
  ⟨(fun xs q => by rw [h] at q; cases q), (fun xs q => by rw [h] at q; cases q), (fun o u q => by rw [h] at q; cases q), (fun q => by rw [h] at q; cases q)⟩
theorem off_lst {s : Addr} {xs : List V} (h : H s = some (.lst xs)) (l : 3 < xs.length) : Off H s :=
  ⟨(fun ys q => by rw [h] at q; cases q; exact l), (fun xs q => by rw [h] at q; cases q), (fun o u q => by rw [h] at q; cases q), (fun q => by rw [h] at q; cases q)⟩
theorem off_ins {s C dx : Addr} {fs : List (Str × V)} (h : H s = some (.ins C dx fs)) : Off H s :=
  ⟨(fun ys q => by rw [h] at q; cases q), (fun xs q => by rw [h] at q; cases q), (fun o u q => by rw [h] at q; cases q), (fun q => by rw [h] at q; cases q)⟩
theorem PV.kp {s : Addr} (o : Off H s) (k : Kp s H H') (h : PV K H v d) : PV K H' v d := h.keep (.kp o k)
/-! isinstance -/
theorem kd_str : kitB (tyD d) "str" = some (isStr d) := by cases d <;> kernel_rfl
theorem kd_int : kitB (tyD d) "int" = some (isInt d || isBool d) := by cases d <;> kernel_rfl
theorem kd_bool : kitB (tyD d) "bool" = some (isBool d) := by cases d <;> kernel_rfl
theorem kd_list : kitB (tyD d) "list" = some (isLs d) := by cases d <;> kernel_rfl
theorem kd_tuple : kitB (tyD d) "tuple" = some (isSq d && !isLs d) := by cases d <;> kernel_rfl
variable {σ : L2.St} {te : TE} {T : String} {b : Bool}
theorem ev_isd (h : Ev te σ H v) (p : PV K H v d) (e : kitB (tyD d) T = some b) : Ev (tCB (rIsi K) (tCons te (tCons (tC (.ty T)) tNil))) σ H (.bl b) :=
  ev_cb (ea_cons h (ea_cons ev_c ea_nil)) (rc_isi (.ty T) (fun H1 e1 => (p.mono e1).ty) (kit_ty e))
/-- isinstance(x, (list, tuple)) -/
theorem ev_isLT {t : Value} (h : Ev te σ H v) (p : ∀ H1, Ex H H1 → TyX K H1 v t) (e : PySem.W.kitAny K t [.type "list", .type "tuple"] = some b) : Ev (tCB (rIsiT K) (tCons te (tCons (tTup (tCons (tC (.ty "list")) (tCons (tC (.ty "tuple")) tNil))) tNil))) σ H (.bl b) := fun H1 e1 Q q =>
  h H1 e1 _ fun H2 e2 => (eu_tup (ea_cons ev_c (ea_cons ev_c ea_nil)) (Nat.le_of_ble_eq_true rfl) : EvU _ σ H2 [.ty "list", .ty "tuple"]) H2 (Ex.refl H2) _ fun tp H3 _ e3 h3 =>
    ⟨v, tp, _, t, _, b, rfl, h3, .cons (.ty _) (.cons (.ty _) .nil), p H3 ((e1.trans e2).trans e3), e, q H3 (e2.trans e3)⟩
theorem kd_sq : PySem.W.kitAny K (.type (tyD d)) [.type "list", .type "tuple"] = some (isSq d) := by
  refine kitAny_cons (kit_ty kd_list) (fun h => kitAny_cons (kit_ty kd_tuple) (fun h2 => ?_) (fun h2 => ?_)) (fun h => ?_)
  · rw [kitAny_nil]
    cases d <;> simp_all [isSq, isLs]
  · cases d <;> simp_all [isSq, isLs]
  · cases d <;> simp_all [isSq, isLs]
theorem ev_isSq (h : Ev te σ H v) (p : PV K H v d) : Ev (tCB (rIsiT K) (tCons te (tCons (tTup (tCons (tC (.ty "list")) (tCons (tC (.ty "tuple")) tNil))) tNil))) σ H (.bl (isSq d)) := ev_isLT h (fun H1 e => (p.mono e).ty) kd_sq
/-! comparisons in a row -/
theorem ev_chain {r r' : R2} {ta tb tc : TE} {x y z : V} {a b : Bool} (h1 : Ev ta σ H x) (h2 : Ev tb σ H y) (h3 : Ev tc σ H z) (k : RV r x y H (.bl a)) (k' : RV r' y z H (.bl b)) : Ev (tChain r r' ta tb tc) σ H (.bl (a && b)) := fun H1 e Q q =>
  h1 H1 e _ fun H2 e2 => h2 H2 (e.trans e2) _ fun H3 e3 => k H3 ((e.trans e2).trans e3) _ fun H4 e4 => ⟨a, rfl, by
    cases a with
    | false => exact q H4 ((e2.trans e3).trans e4)
    | true =>
      have X4 := ((e.trans e2).trans e3).trans e4
      exact h3 H4 X4 _ fun H5 e5 => k' H5 (X4.trans e5) _ fun H6 e6 => q H6 ((((e2.trans e3).trans e4).trans e5).trans e6)⟩
/-! texts -/
theorem ev_lenX {x : Str} (h : Ev te σ H (.str x)) (hl : x.length ≤ 100000) : Ev (tCB (fun xs H Q => ∃ z : Str, xs = [V.str z] ∧ z.length ≤ sizeLine ∧ Q (.int z.length) H) (tCons te tNil)) σ H (.int x.length) :=
  ev_cb (ea_cons h ea_nil) fun H1 _ _ q => ⟨x, rfl, sz_of hl, q H1 (Ex.refl H1)⟩
theorem ev_slX {x : Str} {tl th : TO} {lo hi : Option Int} (h : Ev te σ H (.str x)) (h1 : EvO tl σ H lo) (h2 : EvO th σ H hi) (hl : x.length ≤ 100000) : Ev (tSl C8.rSlX te tl th) σ H (.str (Txt.slice x lo hi)) := fun H1 e Q q =>
  h H1 e _ fun H2 e2 => h1 H2 (e.trans e2) _ fun H3 e3 => h2 H3 ((e.trans e2).trans e3) _ fun H4 e4 => by
    show ∃ z, V.str x = .str z ∧ z.length ≤ sizeLine ∧ Q (.str (Txt.slice z lo hi)) H4
    exact ⟨x, rfl, sz_of hl, q H4 ((e2.trans e3).trans e4)⟩
theorem rv_sign {c : Nat} {z : Str} : RV (fun x y H Q => ∃ (c : Nat) (z : Str), x = V.str ⟨#[c]⟩ ∧ y = V.str z ∧ Q (.bl (decide (c ∈ z.cps.toList))) H) (.str ⟨#[c]⟩) (.str z) H (.bl (decide (c ∈ z.cps.toList))) := fun H1 _ _ q => ⟨c, z, rfl, rfl, q H1 (Ex.refl H1)⟩
theorem rv_signN {c : Nat} {z : Str} : RV (fun x y H Q => ∃ (c : Nat) (z : Str), x = V.str ⟨#[c]⟩ ∧ y = V.str z ∧ Q (.bl (!decide (c ∈ z.cps.toList))) H) (.str ⟨#[c]⟩) (.str z) H (.bl (!decide (c ∈ z.cps.toList))) := fun H1 _ _ q => ⟨c, z, rfl, rfl, q H1 (Ex.refl H1)⟩
/-- [e for c in text if t] -/
theorem el_lcX {x : Str} {tl : TE} {t : TT} {j : Nat} {vs : List Nat} (f : Nat → Bool) (w : Nat → V) (h : Ev tl σ H (.str x)) (hz : x.cps.size ≤ 40000) (hw : ∀ x, wipe ((wipe σ vs).set j (some x)) vs = wipe σ vs)
    (ht : ∀ (i c : Nat) H1, Ex H H1 → x.cps[i]? = some c → EvT t ((wipe σ vs).set j (some (.str ⟨#[c]⟩))) H1 (f i)) (he : ∀ (i c : Nat) H1, Ex H H1 → x.cps[i]? = some c → f i = true → Ev te ((wipe σ vs).set j (some (.str ⟨#[c]⟩))) H1 (w i)) :
    EvL (tLc (iStr tl) (gName j) t te vs) σ H (given x.cps.size f w) := fun H0 e Q q => h H0 e _ fun H1 e1 => ⟨x, rfl, fun Dl hD =>
  lc_it (walk_str (z := x)) (Cw H1 f w Dl) ⟨hD, Ex.new hD, upd_same⟩ (fun _ _ _ _ => True.intro) (fun i y H' H'' hi p yy => by
    obtain ⟨rfl, c, hc, rfl⟩ := yy
    exact ⟨hw _, cw_turn p (by omega) (ht i c H1 (e.trans e1) hc) (fun hf => he i c H1 (e.trans e1) hc hf)⟩)
    (fun H' p => q Dl H' (fresh_back e1 p.1) (e1.trans p.2.1) p.2.2)⟩
end
end Way

/-! a list or a tuple, walked -/
namespace Way
open PySem PySem.Spec PyProof.Rows L2 Evl
def iSq (K : PySem.W.Frag) (tl : TE) : TI := fun σ H R => tl σ H fun x H1 => ∃ a, x = .ref a ∧ (((∃ xs, SqL K H1 a xs) ∧ R (Itl K a) H1) ∨ ((∃ xs, SqT K H1 a xs) ∧ R (Itt K a) H1))
theorem pi_sq {X : Cx} {tg l : Expr} {tl : TE} (hl : PE X l tl) : PI X tg l (iSq X.K tl) := by
  refine ⟨fun pins s σ H R I h => ?_⟩
  refine thn (hl.run pins s σ H _ I h) fun v s1 ⟨x, H1, I1, r1, a, e, q⟩ => ?_
  subst e
  cases r1
  have fp : ∀ b ∈ [s1.heap.objs.size], FpOk X pins H1 b := fun b hb => by
    obtain rfl : b = s1.heap.objs.size := by simpa using hb
    exact I1.fpOk (Nat.le_refl _) (I1.hok.fresh (Nat.le_refl _))
  rcases q with ⟨⟨xs, hq⟩, q⟩ | ⟨⟨xs, hq⟩, q⟩
  · obtain ⟨its, rv, p, hz⟩ := I1.list hq
    exact wpAny_pyIter_list p.isList ⟨s1.heap.objs.size, _, _, _, H1, rfl, I1.kept (t' := s1.toks) fun b o e => Heap.get?_push_of_some _ e, turn_list a _, ⟨_, Heap.get?_push_size _ rfl, rfl, rfl⟩, fp, q⟩
  · obtain ⟨its, rv, p, hz⟩ := I1.tuple hq
    exact wpAny_pyIter_tuple (show s1.heap.IsTuple a its.toArray from p) ⟨s1.heap.objs.size, _, _, _, H1, rfl, I1.kept (t' := s1.toks) fun b o e => Heap.get?_push_of_some _ e, turn_tuple a _, ⟨_, Heap.get?_push_size _ rfl, rfl, rfl⟩, fp, q⟩
theorem kk_cntS {X : Cx} {K : PySem.W.Frag} (h : X.K = K := by rfl) : MtR X "list.count" (rCntS K) := h ▸ mt_cntS
/-- a list or a tuple -/
def Sq2 (K : PySem.W.Frag) (H : Hp) (a : Addr) (xs : List V) : Prop := SqL K H a xs ∨ SqT K H a xs
section
variable {K : PySem.W.Frag} {H : Hp} {σ : L2.St} {t : TT} {te tl : TE} {α : Type} {P : α → V → Hp → Prop} {S : List α}
theorem Sq2.mono {H' : Hp} {a : Addr} {xs : List V} (e : Ex H H') (h : Sq2 K H a xs) : Sq2 K H' a xs := h.elim (fun h => .inl (ex_l e h)) fun h => .inr (ex_t e h)
theorem el_lcQ {a : Addr} {xs : List V} {j : Nat} {vs : List Nat} (f : Nat → Bool) (v : Nat → V) (h : Ev tl σ H (.ref a)) (hx : Sq2 K H a xs) (hz : xs.length ≤ 40000) (hw : ∀ x, wipe ((wipe σ vs).set j (some x)) vs = wipe σ vs)
    (ht : ∀ (i : Nat) (x : V) H1, Ex H H1 → xs[i]? = some x → EvT t ((wipe σ vs).set j (some x)) H1 (f i)) (he : ∀ (i : Nat) (x : V) H1, Ex H H1 → xs[i]? = some x → f i = true → Ev te ((wipe σ vs).set j (some x)) H1 (v i)) :
    EvL (tLc (iSq K tl) (gName j) t te vs) σ H (given xs.length f v) := fun H0 e Q q => h H0 e _ fun H1 e1 => ⟨a, rfl, by
  have turn : ∀ (Dl : Addr) (i : Nat) (x : V) (H' : Hp), xs[i]? = some x → Cw H1 f v Dl i H' → wipe ((wipe σ vs).set j (some x)) vs = wipe σ vs ∧ t ((wipe σ vs).set j (some x)) H' fun b H3 => if b = true then te ((wipe σ vs).set j (some x)) H3 fun y H4 => ∃ acc, H4 Dl = some (.lst acc) ∧ acc.length < sizeLine ∧ Cw H1 f v Dl (i + 1) (upd H4 Dl (.lst (acc ++ [y]))) else Cw H1 f v Dl (i + 1) H3 := fun Dl i x H' hi p =>
    ⟨hw x, cw_turn p (by have := (List.getElem?_eq_some_iff.mp hi).1; omega) (ht i x H1 (e.trans e1) hi) (fun hf => he i x H1 (e.trans e1) hi hf)⟩
  rcases hx with hx | hx
  · exact .inl ⟨⟨xs, ex_l (e.trans e1) hx⟩, fun Dl hD => lc_list (xs := xs) (Cw H1 f v Dl) ⟨hD, Ex.new hD, upd_same⟩ (fun i H' _ p => ex_l ((e.trans e1).trans p.2.1) hx) (fun i x H' hi p => turn Dl i x H' hi p) (fun H' p => q Dl H' (fresh_back e1 p.1) (e1.trans p.2.1) p.2.2)⟩
  · exact .inr ⟨⟨xs, ex_t (e.trans e1) hx⟩, fun Dl hD => lc_tup (xs := xs) (Cw H1 f v Dl) ⟨hD, Ex.new hD, upd_same⟩ (fun i H' _ p => ex_t ((e.trans e1).trans p.2.1) hx) (fun i x H' hi p => turn Dl i x H' hi p) (fun H' p => q Dl H' (fresh_back e1 p.1) (e1.trans p.2.1) p.2.2)⟩⟩
/-- [e for x in s], told by codes -/
theorem el_mapQ {a : Addr} {xs : List V} {j : Nat} {vs : List Nat} {w : α → V} (h : Ev tl σ H (.ref a)) (hs : Sq2 K H a xs) (hx : Paired (fun x i => P i x H) xs S) (hz : S.length ≤ 40000) (hw : ∀ x, wipe ((wipe σ vs).set j (some x)) vs = wipe σ vs)
    (he : ∀ (x : V) (i : α) H1, Ex H H1 → i ∈ S → P i x H → Ev te ((wipe σ vs).set j (some x)) H1 (w i)) : EvL (tLc (iSq K tl) (gName j) tYes te vs) σ H (S.map w) := by
  have hlen : xs.length = S.length := Paired.length hx
  have eq : given xs.length (fun _ => true) (fun i => (S[i]?.map w).getD .non) = S.map w := by
    unfold given
    rw [List.filter_eq_self.mpr fun _ _ => rfl, hlen]
    refine List.ext_getElem? fun i => ?_
    rw [List.getElem?_map, List.getElem?_map]
    by_cases hi : i < S.length
    · rw [List.getElem?_range hi, List.getElem?_eq_getElem hi]
      show some ((Option.map w S[i]?).getD V.non) = some (w S[i])
      rw [List.getElem?_eq_getElem hi]
      rfl
    · rw [List.getElem?_eq_none (by simpa using Nat.le_of_not_lt hi), List.getElem?_eq_none (Nat.le_of_not_lt hi)]; rfl
  rw [← eq]
  refine el_lcQ (K := K) (fun _ => true) (fun i => (S[i]?.map w).getD .non) h hs (by omega) hw (fun i x H2 e2 hi => fun H3 e3 Q q => q H3 (Ex.refl H3)) (fun i x H2 e2 hi _ => ?_)
  obtain ⟨y, hy, py⟩ := pr_at hx hi
  rw [hy]
  exact he x y H2 e2 (List.mem_of_getElem? hy) py
/-- len([x for x in s if t]) -/
theorem ev_lenFltQ {a : Addr} {xs : List V} {j : Nat} {vs : List Nat} {g : α → Bool} (h : Ev tl σ H (.ref a)) (hs : Sq2 K H a xs) (hx : Paired (fun x i => P i x H) xs S) (hz : S.length ≤ 40000) (hj : j < σ.length) (hw : ∀ x, wipe ((wipe σ vs).set j (some x)) vs = wipe σ vs)
    (ht : ∀ (x : V) (i : α) H1, Ex H H1 → i ∈ S → P i x H → EvT t ((wipe σ vs).set j (some x)) H1 (g i)) : Ev (tCB (rLenS K) (tCons (tLc (iSq K tl) (gName j) t (tVar j) vs) tNil)) σ H (.int ((S.filter g).length : Int)) := by
  have hlen : xs.length = S.length := Paired.length hx
  have e1 : EvL (tLc (iSq K tl) (gName j) t (tVar j) vs) σ H (given xs.length (fun i => (S[i]?.map g).getD false) (fun i => xs.getD i .non)) := by
    refine el_lcQ (K := K) _ _ h hs (by omega) hw (fun i x H2 e2 hi => ?_) (fun i x H2 e2 hi _ => ?_)
    · obtain ⟨y, hy, py⟩ := pr_at hx hi
      rw [hy]
      exact ht x y H2 e2 (List.mem_of_getElem? hy) py
    · have ed : xs.getD i .non = x := by rw [List.getD_eq_getElem?_getD, hi]; rfl
      rw [ed]
      refine ev_var ?_
      rw [List.getElem?_set_self (by rw [wipe_length]; exact hj)]
  have e2 := ev_lenN (K := K) e1
  have hp := Paired.length (given_flt (g := g) hx fun i x y e1 e2 => ⟨by rw [e2]; rfl, by rw [List.getD_eq_getElem?_getD, e1]; rfl⟩ : Paired (fun x i => P i x H) (given xs.length (fun i => (S[i]?.map g).getD false) (fun i => xs.getD i .non)) (S.filter g))
  rw [hp] at e2
  exact e2
end
/-! names, fields and kinds as data -/
def LET : List Nat := ("abcdefghijklmnopqrstuvwxyz" : Str).cps.toList
def CAP : List Nat := ("ABCDEFGHIJKLMNOPQRSTUVWXYZ" : Str).cps.toList
def lets (x : Str) : Bool := x.cps.toList.all fun c => decide (c ∈ LET)
/-- 1 to 8 signs -/
def sz8 (x : Str) : Bool := decide ((1 : Int) ≤ (x.length : Int)) && decide ((x.length : Int) ≤ 8)
def fnS (x : Str) : Bool := sz8 x && lets x
/-- a capital, then letters -/
def capL : List Nat → Bool
  | c :: r => decide (c ∈ CAP) && r.all fun c => decide (c ∈ LET)
  | [] => false
def knS (x : Str) : Bool := sz8 x && capL x.cps.toList
def fFN : PyData → Bool
  | .str x => fnS x
  | _ => false
def fKN : PyData → Bool
  | .str x => knS x
  | _ => false
def isNon : PyData → Bool
  | .none => true
  | _ => false
def fAny : PyData → Bool
  | .str x => decide (x = "any")
  | _ => false
def fTG (d : PyData) : Bool := fKN d || fAny d
def BIG : Int := 1000000000000
def fFM : PyData → PyData → PyData → Bool
  | .str m, t, .int i => if m = "mark" then isNon t && (decide (-BIG < i) && decide (i < BIG)) else if m = "link" ∨ m = "list" then fTG t && decide (i = 0) else false
  | _, _, _ => false
def seqOf : PyData → Option (List PyData)
  | .list ds => some ds
  | .tuple ds => some ds
  | _ => none
/-- elder names of the name n -/
def elds (n : Str) : List PyData → Bool
  | [] => true
  | [.str x] => fnS x && !decide (x = n)
  | [.str x, .str y] => (fnS x && !decide (x = n)) && (fnS y && !decide (y = n)) && !decide (x = y)
  | _ => false
def fEL (n : Str) (w : PyData) : Bool := match seqOf w with
  | some ds => elds n ds
  | none => false
def fFR : PyData → PyData → PyData → PyData → PyData → Bool
  | .str n, m, t, df, w => fnS n && (fFM m t df && fEL n w)
  | _, _, _, _, _ => false
/-! comprehensions over a text -/
section
variable {K : PySem.W.Frag} {H : Hp} {σ : L2.St} {t : TT} {te tl : TE}
theorem given_all {α : Type} (l : List α) (w : α → V) : given l.length (fun _ => true) (fun i => (l[i]?.map w).getD .non) = l.map w := by
  unfold given
  rw [List.filter_eq_self.mpr fun _ _ => rfl]
  refine List.ext_getElem? fun i => ?_
  rw [List.getElem?_map, List.getElem?_map]
  by_cases hi : i < l.length
  · rw [List.getElem?_range hi, List.getElem?_eq_getElem hi]
    show some ((Option.map w l[i]?).getD V.non) = some (w l[i])
    rw [List.getElem?_eq_getElem hi]
    rfl
  · rw [List.getElem?_eq_none (by simpa using Nat.le_of_not_lt hi), List.getElem?_eq_none (Nat.le_of_not_lt hi)]; rfl
theorem el_mapX {x : Str} {j : Nat} {vs : List Nat} {w : Nat → V} (h : Ev tl σ H (.str x)) (hz : x.cps.size ≤ 40000) (hw : ∀ x, wipe ((wipe σ vs).set j (some x)) vs = wipe σ vs)
    (he : ∀ (c : Nat) H1, Ex H H1 → Ev te ((wipe σ vs).set j (some (.str ⟨#[c]⟩))) H1 (w c)) : EvL (tLc (iStr tl) (gName j) tYes te vs) σ H (x.cps.toList.map w) := by
  rw [← given_all x.cps.toList w]
  have e0 : x.cps.toList.length = x.cps.size := by simp
  rw [e0]
  refine el_lcX (fun _ => true) (fun i => (x.cps.toList[i]?.map w).getD .non) h hz hw (fun i c H2 e2 hi => fun H3 e3 Q q => q H3 (Ex.refl H3)) (fun i c H2 e2 hi _ => ?_)
  have e1 : x.cps.toList[i]? = some c := by rw [Array.getElem?_toList]; exact hi
  rw [e1]
  exact he c H2 e2
theorem ev_lenFltX {x : Str} {j : Nat} {vs : List Nat} {g : Nat → Bool} (h : Ev tl σ H (.str x)) (hz : x.cps.size ≤ 40000) (hj : j < σ.length) (hw : ∀ x, wipe ((wipe σ vs).set j (some x)) vs = wipe σ vs)
    (ht : ∀ (c : Nat) H1, Ex H H1 → EvT t ((wipe σ vs).set j (some (.str ⟨#[c]⟩))) H1 (g c)) : Ev (tCB (rLenS K) (tCons (tLc (iStr tl) (gName j) t (tVar j) vs) tNil)) σ H (.int ((x.cps.toList.filter g).length : Int)) := by
  have e0 : x.cps.toList.length = x.cps.size := by simp
  have e1 : EvL (tLc (iStr tl) (gName j) t (tVar j) vs) σ H (given x.cps.size (fun i => (x.cps.toList[i]?.map g).getD false) (fun i => (x.cps.toList[i]?.map fun c => V.str ⟨#[c]⟩).getD .non)) := by
    refine el_lcX _ _ h hz hw (fun i c H2 e2 hi => ?_) (fun i c H2 e2 hi _ => ?_)
    · have e1 : x.cps.toList[i]? = some c := by rw [Array.getElem?_toList]; exact hi
      rw [e1]
      exact ht c H2 e2
    · have e1 : x.cps.toList[i]? = some c := by rw [Array.getElem?_toList]; exact hi
      rw [e1]
      refine ev_var ?_
      rw [List.getElem?_set_self (by rw [wipe_length]; exact hj)]
      rfl
  have e2 := ev_lenN (K := K) e1
  have pz : ∀ l : List Nat, Paired (fun (v : V) (c : Nat) => v = V.str ⟨#[c]⟩) (l.map fun c => V.str ⟨#[c]⟩) l := fun l => by
    induction l with
    | nil => exact .nil
    | cons a r ih => exact .cons rfl ih
  have hp := Paired.length (given_flt (g := g) (f := fun i => (x.cps.toList[i]?.map g).getD false) (v := fun i => (x.cps.toList[i]?.map fun c => V.str ⟨#[c]⟩).getD .non) (pz x.cps.toList) fun i v y e1 e2 => ⟨by rw [e2]; rfl, by
    rw [List.getElem?_map] at e1
    rw [e2] at e1 ⊢
    cases e1
    rfl⟩)
  rw [List.length_map, e0] at hp
  rw [hp] at e2
  exact e2
end
/-! promises of predicates -/
def spB1 (K : PySem.W.Frag) (f : PyData → Bool) : Sp := fun vs H Q _ => ∃ v d, vs = [v] ∧ PV K H v d ∧ ∀ H', Ex H H' → Q (.bl (f d)) H'
def spX (f : Str → Bool) : Sp := fun vs H Q _ => ∃ x : Str, vs = [.str x] ∧ x.length ≤ 100 ∧ ∀ H', Ex H H' → Q (.bl (f x)) H'
section
variable {K : PySem.W.Frag} {H : Hp} {σ : L2.St} {te tf : TE} {v : V} {d : PyData} {E : XK}
theorem ev_b1 {f : PyData → Bool} (h : Ev te σ H v) (p : PV K H v d) : Ev (tCall (spB1 K f) [] E (tCons te tNil)) σ H (.bl (f d)) :=
  ev_call (ea_cons h ea_nil) fun H1 e Q q E => ⟨v, d, rfl, p.mono e, fun H2 e2 => q H2 e2⟩
theorem ev_x {f : Str → Bool} {x : Str} (h : Ev te σ H (.str x)) (hl : x.length ≤ 100) : Ev (tCall (spX f) [] E (tCons te tNil)) σ H (.bl (f x)) :=
  ev_call (ea_cons h ea_nil) fun H1 e Q q E => ⟨x, rfl, hl, fun H2 e2 => q H2 e2⟩
/-- v is the text x -/
theorem pv_str {x : Str} (p : PV K H v (.str x)) : v = .str x ∧ plS x = true := by
  cases p with
  | dp h p =>
    cases h
    exact ⟨rfl, by simpa [pl, plA] using p⟩
theorem pv_isStr (p : PV K H v d) (h : isStr d = true) : ∃ x, d = .str x ∧ v = .str x ∧ x.length ≤ 20 := by
  cases d with
  | str x =>
    obtain ⟨e, q⟩ := pv_str p
    refine ⟨x, rfl, e, ?_⟩
    simp only [plS, Bool.and_eq_true, decide_eq_true_eq] at q
    exact q.2
  | _ => simp [isStr] at h
theorem slice1 {x : Str} {c : Nat} {r : List Nat} (h : x.cps.toList = c :: r) : Txt.slice x (some 1) none = ⟨r.toArray⟩ := by
  have e : x = SX.S ([c] ++ r) := by
    cases x
    have h' : _ = c :: r := h
    show _ = Str.mk (c :: r).toArray
    rw [← h']
  rw [e]
  exact SX.from_app [c] r rfl
theorem at0 {x : Str} {c : Nat} {r : List Nat} (h : x.cps.toList = c :: r) : atI x.cps.toList 0 = some c := by
  rw [h]
  have e : (0 : Int) < ((r.length + 1 : Nat) : Int) := by omega
  simp [atI, ixN]
theorem sz8_cons {x : Str} (h : sz8 x = true) : ∃ c r, x.cps.toList = c :: r ∧ x.length ≤ 8 := by
  simp only [sz8, Bool.and_eq_true, decide_eq_true_eq] at h
  have hl : x.length = x.cps.toList.length := by simp [Str.length]
  cases e : x.cps.toList with
  | nil => rw [e] at hl; simp at hl; omega
  | cons c r => exact ⟨c, r, rfl, by omega⟩
end
end Way

/-! readings: fields of instances, raised errors, fields of caught ones -/
namespace Way
open PySem PySem.Spec PyProof.Rows L2 Evl
section
variable {K : PySem.W.Frag} {σ : L2.St} {H : Hp} {te ta tv : TE} {tA : TA} {D : Ends} {tz : TS} {f g : Str} {a C dx : Addr} {fs : List (Str × V)} {v y : V}
theorem ev_fld (h : Ev ta σ H (.ref a)) (ha : H a = some (.ins C dx fs)) (c : Cls K C) (n : NoAttr K C f) (l : fs.lookup f = some v) : Ev (tFld K ta f) σ H v := fun H1 e Q q =>
  h H1 e _ fun H2 e2 => ⟨a, C, dx, fs, v, rfl, (e.trans e2) _ _ ha, c, n, l, q H2 e2⟩
theorem s_setF (hv : Ev tv σ H y) (ho : Ev ta σ H (.ref a)) (ha : H a = some (.ins C dx fs)) (c : Cls K C) (n : NoAttr K C f) (hl : fs.length < 1000) (k : ∀ H1, Ex H H1 → D.nx σ (upd H1 a (.ins C dx (putF f y fs)))) : sFld K ta tv f D σ H :=
  hv H (Ex.refl H) _ fun H1 e1 => ho H1 e1 _ fun H2 e2 => ⟨a, C, dx, fs, rfl, (e1.trans e2) _ _ ha, c, n, hl, k H2 (e1.trans e2)⟩
theorem q_setF (hv : Ev tv σ H y) (ho : Ev ta σ H (.ref a)) (ha : H a = some (.ins C dx fs)) (c : Cls K C) (n : NoAttr K C f) (hl : fs.length < 1000) (k : ∀ H1, Ex H H1 → tz D σ (upd H1 a (.ins C dx (putF f y fs)))) : tSeq (sFld K ta tv f) tz D σ H :=
  s_setF (D := { D with nx := tz D }) hv ho ha c n hl k
theorem s_setFX {P : V → Hp → Prop} (hv : EvX tv σ H P) (ho : ∀ H1, Ex H H1 → Ev ta σ H1 (.ref a)) (ha : H a = some (.ins C dx fs)) (c : Cls K C) (n : NoAttr K C f) (hl : fs.length < 1000) (m : ∀ y H1 H2, Ex H1 H2 → P y H1 → P y H2) (k : ∀ y H1, Ex H H1 → P y H1 → D.nx σ (upd H1 a (.ins C dx (putF f y fs)))) : sFld K ta tv f D σ H :=
  hv H (Ex.refl H) _ fun y H1 e1 p => ho H1 e1 H1 (Ex.refl H1) _ fun H2 e2 => ⟨a, C, dx, fs, rfl, (e1.trans e2) _ _ ha, c, n, hl, k y H2 (e1.trans e2) (m y H1 H2 e2 p)⟩
theorem q_setFX {P : V → Hp → Prop} (hv : EvX tv σ H P) (ho : ∀ H1, Ex H H1 → Ev ta σ H1 (.ref a)) (ha : H a = some (.ins C dx fs)) (c : Cls K C) (n : NoAttr K C f) (hl : fs.length < 1000) (m : ∀ y H1 H2, Ex H1 H2 → P y H1 → P y H2) (k : ∀ y H1, Ex H H1 → P y H1 → tz D σ (upd H1 a (.ins C dx (putF f y fs)))) : tSeq (sFld K ta tv f) tz D σ H :=
  s_setFX (D := { D with nx := tz D }) hv ho ha c n hl m k
/-- raise X(v) -/
theorem mko1 {u : V} {Q : XK} (h : EvA tA σ H [u]) (k : ∀ d H', Ex H H' → H' d = some (.xd [(f, u)]) → Q (.ref C) (some d) H') : tMkO C (spX1 C f) [] tA σ H Q :=
  h H (Ex.refl H) _ fun H1 e1 => ⟨(by decide : 1 ≤ 1000), fun a ha => ⟨a, u, rfl, upd_same, fun dx hd hn => ⟨rfl, dx, _, upd_same, (upd_ne hn).trans upd_same, (by rw [upd_ne hn] at hd; exact hd), by
    have hd' : H1 dx = none := by rw [upd_ne hn] at hd; exact hd
    refine k dx _ (e1.trans fun b o eb => ?_) upd_same
    have ba := ne_of_none eb ha
    have bd := ne_of_none eb hd'
    rw [upd_ne bd, del_ne ba, upd_ne ba, upd_ne bd, upd_ne ba]
    exact eb⟩⟩⟩
theorem q_mko1 {u : V} {W : Ends → Value → Option Addr → L2.St → Hp → Prop} (h : EvA tA σ H [u]) (k : ∀ d H', Ex H H' → H' d = some (.xd [(f, u)]) → W { D with nx := tz D } (.ref C) (some d) σ H') : tSeq (fun D σ H => tMkO C (spX1 C f) [] tA σ H fun cls d H' => W D cls d σ H') tz D σ H := by
  show tMkO C (spX1 C f) [] tA σ H (fun cls d H' => W { D with nx := tz D } cls d σ H')
  exact mko1 h k
theorem ev_xf {d : Addr} (h : Ev te σ H (.ref a)) (hd : H d = some (.xd fs)) (l : fs.lookup f = some v) : Ev (tXf a (.ref C) (some d) C f te) σ H v := fun H1 e Q q =>
  h H1 e _ fun H2 e2 => ⟨rfl, rfl, d, fs, v, rfl, e2 _ _ (e _ _ hd), l, q H2 e2⟩
theorem lk_same {l : List (Str × V)} : (putF f y l).lookup f = some y := by rw [lookup_putF, if_pos rfl]
theorem lk_ne {l : List (Str × V)} (h : ¬ g = f) : (putF f y l).lookup g = l.lookup g := by rw [lookup_putF, if_neg h]
theorem len_put {l : List (Str × V)} {n : Nat} (h : l.length ≤ n) : (putF f y l).length ≤ n + 1 := Nat.le_trans (length_putF f y l) (by omega)
end
/-! values of plain kinds, by their data -/
section
variable {K : PySem.W.Frag} {H : Hp} {v : V} {d : PyData}
theorem pv_int {i : Int} (p : PV K H v (.int i)) : v = .int i := by
  cases p with
  | dp h p => cases h; rfl
theorem pv_bool {b : Bool} (p : PV K H v (.bool b)) : v = .bl b := by
  cases p with
  | dp h p => cases h; rfl
theorem pv_none (p : PV K H v .none) : v = .non := by
  cases p with
  | dp h p => cases h; rfl
theorem pv_isNon (p : PV K H v d) : decide (v = .non) = isNon d := by
  cases p with
  | emp h => rfl
  | dp h p => cases h <;> rfl
theorem pv_seq {ds : List PyData} (p : PV K H v d) (h : seqOf d = some ds) : ∃ a xs, v = .ref a ∧ Sq2 K H a xs ∧ DpAll K H xs ds ∧ ds.all plE = true ∧ ds.length ≤ 3 := by
  cases p with
  | emp h' => simp [seqOf] at h
  | dp h' p =>
    cases h' with
    | lst h1 h2 =>
      simp only [seqOf, Option.some.injEq] at h
      subst h
      simp only [pl, Bool.and_eq_true, decide_eq_true_eq] at p
      exact ⟨_, _, rfl, .inl h1, h2, p.2, p.1⟩
    | tup h1 h2 =>
      simp only [seqOf, Option.some.injEq] at h
      subst h
      simp only [pl, Bool.and_eq_true, decide_eq_true_eq] at p
      exact ⟨_, _, rfl, .inr h1, h2, p.2, p.1⟩
    | _ => simp [seqOf] at h
theorem isSq_seq (h : isSq d = true) : ∃ ds, seqOf d = some ds := by
  cases d <;> simp [isSq, seqOf] at h ⊢
theorem isSq_no (h : isSq d = false) : seqOf d = none := by
  cases d <;> simp [isSq, seqOf] at h ⊢
/-- of an entry -/
def EV (K : PySem.W.Frag) (d : PyData) (v : V) (H : Hp) : Prop := Dp K H v d ∧ plE d = true
theorem EV.pv (h : EV K d v H) : PV K H v d := by
  refine .dp h.1 ?_
  have p := h.2
  cases d with
  | list ds => cases ds with
    | nil => rfl
    | cons a b => simp [plE, plA] at p
  | tuple ds => simp [plE, plA] at p
  | _ => exact p
theorem ev_all' : ∀ {xs : List V} {ds : List PyData}, DpAll K H xs ds → ds.all plE = true → Paired (fun x d => EV K d x H) xs ds
  | _, _, .nil, _ => .nil
  | _, _, .cons a r, p => by
    rw [List.all_cons, Bool.and_eq_true] at p
    exact .cons ⟨a, p.1⟩ (ev_all' r p.2)
end
end Way

/-! what repr shows tells plain data apart -/
namespace Way
open PySem PySem.Spec PyProof.Rows L2
abbrev sh (d : PyData) : List Nat := d.shown.cps.toList
theorem plC_bnd {c : Nat} (h : plC c = true) : c < 123 ∧ c ≠ 39 ∧ c ≠ 44 := by
  simp only [plC, Bool.or_eq_true, Bool.and_eq_true, decide_eq_true_eq, beq_iff_eq] at h
  omega
theorem repr_all : ∀ c, c < 123 → plC c = true → Builtin.Str.reprChar 39 c = [c] := by decide +kernel
theorem repr_plC {c : Nat} (h : plC c = true) : Builtin.Str.reprChar 39 c = [c] := repr_all c (plC_bnd h).1 h
theorem quote_pl {x : Str} (h : x.cps.toList.all plC = true) : reprQuote x = 39 := by
  have : x.cps.contains 39 = false := by
    rw [← Array.contains_toList]
    cases e : x.cps.toList.contains 39 with
    | false => rfl
    | true =>
      have hm : 39 ∈ x.cps.toList := by simpa using e
      have := List.all_eq_true.mp h 39 hm
      exact absurd rfl (plC_bnd this).2.1
  unfold reprQuote
  rw [this]
  rfl
theorem fold_pl : ∀ (l : List Nat) (acc : Array Nat), l.all plC = true → (l.foldl (fun out c => out ++ (Builtin.Str.reprChar 39 c).toArray) acc).toList = acc.toList ++ l
  | [], acc, _ => by simp
  | c :: r, acc, h => by
    rw [List.all_cons, Bool.and_eq_true] at h
    rw [List.foldl_cons, fold_pl r _ h.2, repr_plC h.1]
    simp
theorem sh_str {x : Str} (h : plS x = true) : sh (.str x) = 39 :: (x.cps.toList ++ [39]) := by
  simp only [plS, Bool.and_eq_true] at h
  have e : sh (.str x) = (reprText x).cps.toList := by simp only [sh, PyData.shown]
  rw [e]
  unfold reprText
  rw [quote_pl h.1, ← Array.foldl_toList]
  show (Array.push _ 39).toList = _
  rw [Array.toList_push, fold_pl _ _ h.1]
  rfl
theorem sh_none : sh .none = [78, 111, 110, 101] := by decide +kernel
theorem sh_true : sh (.bool true) = [84, 114, 117, 101] := by decide +kernel
theorem sh_false : sh (.bool false) = [70, 97, 108, 115, 101] := by decide +kernel
theorem sh_nat (n : Nat) : sh (.int (n : Int)) = TL.numL n := by
  have := TL.tl_num n
  simpa only [sh, PyData.shown] using this
theorem sh_neg (m : Nat) : sh (.int (Int.negSucc m)) = 45 :: TL.numL (m + 1) := by
  have e : toString (Int.negSucc m) = "-" ++ toString (((m + 1 : Nat)) : Int) := rfl
  have h1 : sh (.int (Int.negSucc m)) = (Str.ofString (toString (Int.negSucc m))).cps.toList := by simp only [sh, PyData.shown]
  have h2 := TL.tl_num (m + 1)
  have h3 := TL.tl_ofString (toString (((m + 1 : Nat)) : Int))
  have h4 := TL.tl_ofString ("-" ++ toString (((m + 1 : Nat)) : Int))
  rw [h1, e]
  refine h4.trans ?_
  rw [String.toList_append, List.map_append, ← h3, h2]
  rfl
theorem num_dig {n c : Nat} (h : c ∈ TL.numL n) : 48 ≤ c ∧ c ≤ 57 := by
  have h1 := TL.numL_digits n
  by_cases z : c < 48 ∨ 57 < c
  · exact absurd h (TL.numL_free z)
  · omega
/-- the first sign of an int's text -/
theorem int_hd (i : Int) : ∃ c r, sh (.int i) = c :: r ∧ (c = 45 ∨ (48 ≤ c ∧ c ≤ 57)) ∧ ∀ x ∈ r, 48 ≤ x ∧ x ≤ 57 := by
  cases i with
  | ofNat n =>
    have h := sh_nat n
    cases e : TL.numL n with
    | nil => exact absurd e (TL.numL_ne n)
    | cons c r =>
      exact ⟨c, r, h.trans e, .inr (num_dig (by rw [e]; exact List.mem_cons_self ..)), fun x hx => num_dig (n := n) (by rw [e]; exact List.mem_cons_of_mem _ hx)⟩
  | negSucc m => exact ⟨45, _, sh_neg m, .inl rfl, fun x hx => num_dig hx⟩
theorem int_inj {i j : Int} (h : sh (.int i) = sh (.int j)) : i = j := by
  cases i with
  | ofNat n => cases j with
    | ofNat m =>
      have := (sh_nat n).symm.trans (h.trans (sh_nat m))
      rw [TL.numL_inj this]
    | negSucc m =>
      have := (sh_nat n).symm.trans (h.trans (sh_neg m))
      have := num_dig (n := n) (c := 45) (by rw [this]; exact List.mem_cons_self ..)
      omega
  | negSucc n => cases j with
    | ofNat m =>
      have := (sh_nat m).symm.trans (h.symm.trans (sh_neg n))
      have := num_dig (n := m) (c := 45) (by rw [this]; exact List.mem_cons_self ..)
      omega
    | negSucc m =>
      have := (sh_neg n).symm.trans (h.trans (sh_neg m))
      have := TL.numL_inj (List.cons.inj this).2
      have : n = m := by omega
      rw [this]
/-! atoms -/
/-- the kind of an atom by its first sign -/
def hd0 (l : List Nat) : Nat := l.headD 0
theorem atom_cases {d : PyData} (h : plA d = true) : (d = .none ∧ hd0 (sh d) = 78) ∨ (∃ b, d = .bool b ∧ hd0 (sh d) = if b then 84 else 70) ∨ (∃ i, d = .int i ∧ (hd0 (sh d) = 45 ∨ (48 ≤ hd0 (sh d) ∧ hd0 (sh d) ≤ 57))) ∨ (∃ x, d = .str x ∧ plS x = true ∧ hd0 (sh d) = 39) := by
  cases d with
  | none => exact .inl ⟨rfl, by rw [sh_none]; rfl⟩
  | bool b =>
    refine .inr (.inl ⟨b, rfl, ?_⟩)
    cases b with
    | true => rw [sh_true]; rfl
    | false => rw [sh_false]; rfl
  | int i =>
    obtain ⟨c, r, e, h1, _⟩ := int_hd i
    refine .inr (.inr (.inl ⟨i, rfl, ?_⟩))
    rw [e]
    exact h1
  | str x =>
    refine .inr (.inr (.inr ⟨x, rfl, h, ?_⟩))
    rw [sh_str h]
    rfl
  | list _ => simp [plA] at h
  | tuple _ => simp [plA] at h
  | dict _ => simp [plA] at h
theorem atom_inj {d e : PyData} (hd : plA d = true) (he : plA e = true) (h : sh d = sh e) : d = e := by
  have hh := congrArg hd0 h
  rcases atom_cases hd with ⟨rfl, a⟩ | ⟨b, rfl, a⟩ | ⟨i, rfl, a⟩ | ⟨x, rfl, px, a⟩ <;> rcases atom_cases he with ⟨rfl, a'⟩ | ⟨b', rfl, a'⟩ | ⟨j, rfl, a'⟩ | ⟨y, rfl, py, a'⟩
  · rfl
  · rw [a, a'] at hh; cases b' <;> simp at hh
  · omega
  · omega
  · rw [a, a'] at hh; cases b <;> simp at hh
  · rw [a, a'] at hh; cases b <;> cases b' <;> simp at hh <;> rfl
  · cases b <;> simp at a <;> omega
  · cases b <;> simp at a <;> omega
  · omega
  · cases b' <;> simp at a' <;> omega
  · rw [int_inj h]
  · omega
  · omega
  · cases b' <;> simp at a' <;> omega
  · omega
  · rw [sh_str px, sh_str py] at h
    have h1 := (List.cons.inj h).2
    have h2 := List.append_cancel_right h1
    rw [TL.ext_tl h2]
theorem atom_comma {d : PyData} (h : plA d = true) : 44 ∉ sh d := by
  rcases atom_cases h with ⟨rfl, _⟩ | ⟨b, rfl, _⟩ | ⟨i, rfl, _⟩ | ⟨x, rfl, px, _⟩
  · rw [sh_none]; decide
  · cases b with
    | true => rw [sh_true]; decide
    | false => rw [sh_false]; decide
  · obtain ⟨c, r, e, h1, h2⟩ := int_hd i
    rw [e]
    intro hm
    rcases List.mem_cons.mp hm with z | z
    · omega
    · have := h2 _ z; omega
  · rw [sh_str px]
    simp only [plS, Bool.and_eq_true] at px
    intro hm
    rcases List.mem_cons.mp hm with z | z
    · cases z
    · rcases List.mem_append.mp z with z | z
      · exact absurd rfl (plC_bnd (List.all_eq_true.mp px.1 _ z)).2.2
      · simp at z
/-! rows -/
theorem split_at : ∀ {a b s t : List Nat}, 44 ∉ a → 44 ∉ b → a ++ 44 :: s = b ++ 44 :: t → a = b ∧ s = t
  | [], [], s, t, _, _, h => ⟨rfl, (List.cons.inj h).2⟩
  | [], y :: b, s, t, _, hb, h => by
    have := (List.cons.inj h).1
    exact absurd (this ▸ List.mem_cons_self ..) hb
  | x :: a, [], s, t, ha, _, h => by
    have := (List.cons.inj h).1
    exact absurd (this ▸ List.mem_cons_self ..) ha
  | x :: a, y :: b, s, t, ha, hb, h => by
    obtain ⟨h1, h2⟩ := List.cons.inj h
    obtain ⟨h3, h4⟩ := split_at (fun z => ha (List.mem_cons_of_mem _ z)) (fun z => hb (List.mem_cons_of_mem _ z)) h2
    exact ⟨by rw [h1, h3], h4⟩
theorem join_inj : ∀ {l m : List (List Nat)}, l.length = m.length → (∀ x ∈ l.dropLast, 44 ∉ x) → (∀ x ∈ m.dropLast, 44 ∉ x) → TL.joinL [44, 32] l = TL.joinL [44, 32] m → l = m
  | [], [], _, _, _, _ => rfl
  | [p], [q], _, _, _, h => by
    have h' : p = q := h
    rw [h']
  | p :: p' :: l, q :: q' :: m, hl, h1, h2, h => by
    have h' : p ++ 44 :: (32 :: TL.joinL [44, 32] (p' :: l)) = q ++ 44 :: (32 :: TL.joinL [44, 32] (q' :: m)) := h
    obtain ⟨e1, e2⟩ := split_at (h1 p (by simp [List.dropLast])) (h2 q (by simp [List.dropLast])) h'
    have e3 := join_inj (l := p' :: l) (m := q' :: m) (by simpa using hl) (fun x hx => h1 x (by rw [List.dropLast_cons₂]; exact List.mem_cons_of_mem _ hx)) (fun x hx => h2 x (by rw [List.dropLast_cons₂]; exact List.mem_cons_of_mem _ hx)) (List.cons.inj e2).2
    rw [e1, e3]
  | [], _ :: _, hl, _, _, _ => by simp at hl
  | _ :: _, [], hl, _, _, _ => by simp at hl
  | [_], _ :: _ :: _, hl, _, _, _ => by simp at hl
  | _ :: _ :: _, [_], hl, _, _, _ => by simp at hl
theorem shownAll_map : ∀ ds : List PyData, PyData.shownAll ds = ds.map PyData.shown
  | [] => rfl
  | d :: r => by rw [PyData.shownAll, shownAll_map r]; rfl
theorem sh_list (ds : List PyData) : sh (.list ds) = 91 :: (TL.joinL [44, 32] (ds.map sh) ++ [93]) := by
  have e : sh (.list ds) = (listText (PyData.shownAll ds)).cps.toList := by simp only [sh, PyData.shown]
  rw [e, listText_eq_join, shownAll_map]
  have h1 := TL.tl_append (("[" : Str) ++ Str.join ", " (ds.map PyData.shown)) "]"
  have h2 := TL.tl_append ("[" : Str) (Str.join ", " (ds.map PyData.shown))
  have h3 := TL.tl_join ", " (ds.map PyData.shown)
  refine h1.trans ?_
  rw [h2, h3, List.map_map]
  rfl
theorem sh_tuple (ds : List PyData) : sh (.tuple ds) = 40 :: (TL.joinL [44, 32] (ds.map sh) ++ (if ds.length == 1 then [44, 41] else [41])) := by
  have e : sh (.tuple ds) = (tupleText (PyData.shownAll ds)).cps.toList := by simp only [sh, PyData.shown]
  rw [e, shownAll_map]
  unfold tupleText
  have h1 := TL.tl_append (("(" : Str) ++ Str.join ", " (ds.map PyData.shown)) (if (ds.map PyData.shown).length == 1 then ",)" else ")" : String)
  have h2 := TL.tl_append ("(" : Str) (Str.join ", " (ds.map PyData.shown))
  have h3 := TL.tl_join ", " (ds.map PyData.shown)
  refine h1.trans ?_
  rw [h2, h3, List.map_map, List.length_map]
  cases h : ds.length == 1 <;> rfl
/-- lists of atoms but for the last -/
theorem list_inj {ds es : List PyData} (hl : ds.length = es.length) (hd : ∀ x ∈ ds.dropLast, plA x = true) (he : ∀ x ∈ es.dropLast, plA x = true) (h : (PyData.list ds).shown = (PyData.list es).shown) : ds.map sh = es.map sh := by
  have h' : sh (.list ds) = sh (.list es) := congrArg (fun x : Str => x.cps.toList) h
  rw [sh_list, sh_list] at h'
  have h1 := List.append_cancel_right (List.cons.inj h').2
  refine join_inj (by rw [List.length_map, List.length_map, hl]) (fun x hx => ?_) (fun x hx => ?_) h1
  · rw [← List.map_dropLast] at hx
    obtain ⟨d, hd', rfl⟩ := List.mem_map.mp hx
    exact atom_comma (hd d hd')
  · rw [← List.map_dropLast] at hx
    obtain ⟨d, hd', rfl⟩ := List.mem_map.mp hx
    exact atom_comma (he d hd')
theorem len2 {α : Type} : ∀ {l : List α}, l.length ≤ 2 → l = [] ∨ (∃ x, l = [x]) ∨ ∃ x y, l = [x, y]
  | [], _ => .inl rfl
  | [x], _ => .inr (.inl ⟨x, rfl⟩)
  | [x, y], _ => .inr (.inr ⟨x, y, rfl⟩)
  | _ :: _ :: _ :: _, h => by simp at h
theorem was_inj : ∀ {l m : List Str}, l.length ≤ 2 → m.length ≤ 2 → (∀ x ∈ l, plS x = true) → (∀ x ∈ m, plS x = true) → sh (.tuple (l.map .str)) = sh (.tuple (m.map .str)) → l = m := by
  have s0 : sh (.tuple []) = [40, 41] := by decide +kernel
  have s1 : ∀ x, sh (.tuple [.str x]) = 40 :: (sh (.str x) ++ 44 :: [41]) := fun x => by rw [sh_tuple]; rfl
  have s2 : ∀ x y, sh (.tuple [.str x, .str y]) = 40 :: (sh (.str x) ++ 44 :: (32 :: (sh (.str y) ++ [41]))) := fun x y => by
    rw [sh_tuple]
    show 40 :: ((sh (.str x) ++ ([44, 32] ++ sh (.str y))) ++ [41]) = _
    simp
  have at1 : ∀ {x y : Str} {s t : List Nat}, plS x = true → plS y = true → 40 :: (sh (.str x) ++ 44 :: s) = 40 :: (sh (.str y) ++ 44 :: t) → x = y ∧ s = t := fun {x y s t} px py h => by
    obtain ⟨h1, h2⟩ := split_at (atom_comma (d := .str x) px) (atom_comma (d := .str y) py) (List.cons.inj h).2
    have := atom_inj (d := .str x) (e := .str y) px py h1
    exact ⟨PyData.str.inj this, h2⟩
  intro l m hl hm pl pm h
  rcases len2 hl with rfl | ⟨x, rfl⟩ | ⟨x, y, rfl⟩ <;> rcases len2 hm with rfl | ⟨z, rfl⟩ | ⟨z, u, rfl⟩
  · rfl
  · have h' := (s0.symm.trans (h.trans (s1 z)))
    rw [sh_str (pm z (List.mem_cons_self ..))] at h'
    simp at h'
  · have h' := (s0.symm.trans (h.trans (s2 z u)))
    rw [sh_str (pm z (List.mem_cons_self ..))] at h'
    simp at h'
  · have h' := (s0.symm.trans (h.symm.trans (s1 x)))
    rw [sh_str (pl x (List.mem_cons_self ..))] at h'
    simp at h'
  · obtain ⟨rfl, _⟩ := at1 (pl x (List.mem_cons_self ..)) (pm z (List.mem_cons_self ..)) ((s1 x).symm.trans (h.trans (s1 z)))
    rfl
  · obtain ⟨_, e⟩ := at1 (pl x (List.mem_cons_self ..)) (pm z (List.mem_cons_self ..)) ((s1 x).symm.trans (h.trans (s2 z u)))
    simp at e
  · have h' := (s0.symm.trans (h.symm.trans (s2 x y)))
    rw [sh_str (pl x (List.mem_cons_self ..))] at h'
    simp at h'
  · obtain ⟨_, e⟩ := at1 (pl x (List.mem_cons_self ..)) (pm z (List.mem_cons_self ..)) ((s2 x y).symm.trans (h.trans (s1 z)))
    simp at e
  · obtain ⟨rfl, e⟩ := at1 (pl x (List.mem_cons_self ..)) (pm z (List.mem_cons_self ..)) ((s2 x y).symm.trans (h.trans (s2 z u)))
    have e1 := List.append_cancel_right (List.cons.inj e).2
    have := atom_inj (d := .str y) (e := .str u) (pl y (by simp)) (pm u (by simp)) e1
    rw [PyData.str.inj this]
/-- d is shown as 'any' -/
theorem shown_any {d : PyData} (h : pl d = true ∨ d = .dict []) : decide (d.shown = (PyData.str "any").shown) = fAny d := by
  have pa : plS "any" = true := by decide +kernel
  have no : ∀ c r, sh d = c :: r → c ≠ 39 → decide (d.shown = (PyData.str "any").shown) = false := fun c r e hc => decide_eq_false fun z => by
    have z' : sh d = sh (.str "any") := congrArg (fun x : Str => x.cps.toList) z
    rw [e, sh_str pa] at z'
    exact hc (List.cons.inj z').1
  rcases h with h | rfl
  · cases d with
    | list ds => exact no _ _ (sh_list ds) (by decide)
    | tuple ds => exact no _ _ (sh_tuple ds) (by decide)
    | dict kvs => simp [pl, plA] at h
    | none => exact no _ _ sh_none (by decide)
    | bool b => cases b with
      | true => exact no _ _ sh_true (by decide)
      | false => exact no _ _ sh_false (by decide)
    | int i =>
      obtain ⟨c, r, e, h1, _⟩ := int_hd i
      exact no c r e (by omega)
    | str x =>
      have px : plS x = true := h
      show _ = decide (x = "any")
      refine decide_eq_decide.mpr ⟨fun z => ?_, fun z => by rw [z]⟩
      have z' : sh (.str x) = sh (.str "any") := congrArg (fun x : Str => x.cps.toList) z
      exact PyData.str.inj (atom_inj (d := .str x) (e := .str "any") px pa z')
  · exact no 123 [125] (by decide +kernel) (by decide)
end Way

/-! own classes: no lists, no others -/
namespace Way
open PySem PySem.Spec PyProof.Rows L2
structure NotSq (K : PySem.W.Frag) (C : Addr) : Prop where
  l : PySem.W.mroIn K C (.type "list") = some false
  t : PySem.W.mroIn K C (.type "tuple") = some false
theorem NotSq.k {K : PySem.W.Frag} {C : Addr} (h : NotSq K C) : PySem.W.kitAny K (.ref C) [.type "list", .type "tuple"] = some false := by
  have one : ∀ T : String, PySem.W.kitMeta T = true → PySem.W.mroIn K C (.type T) = some false → PySem.W.kitOne K (.ref C) (.type T) = some false := fun T m e => by
    unfold PySem.W.kitOne
    rw [if_neg (by intro z; cases beq_iff_eq.mp z)]
    show (if PySem.W.kitMeta T = true then PySem.W.subIn K (.ref C) (.type T) else none) = _
    rw [if_pos m]
    exact e
  unfold PySem.W.kitAny
  rw [one "list" (by decide +kernel) h.l]
  unfold PySem.W.kitAny
  rw [one "tuple" (by decide +kernel) h.t]
  rfl
structure NotIs (K : PySem.W.Frag) (C D : Addr) : Prop where
  a : PySem.W.mroIn K C (.ref D) = some false
  b : PySem.W.mroIn K D (.ref D) = some true
theorem NotIs.k {K : PySem.W.Frag} {C D : Addr} (h : NotIs K C D) (i : InsC K D) (c : Cls K D) : PySem.W.kitOne K (.ref C) (.ref D) = some false := by
  have hc : (PySem.W.clsIn K D).isSome = true := by
    obtain ⟨cd, hc, _⟩ := PySem.W.any_some c.hd
    rw [hc]; rfl
  have ne : C ≠ D := fun z => by
    have := h.a
    rw [z, h.b] at this
    cases this
  unfold PySem.W.kitOne
  rw [if_neg (by intro z; exact ne (Value.ref.inj (beq_iff_eq.mp z)))]
  show (if ((PySem.W.clsIn K D).isSome && PySem.W.typeIn K (.ref D) == some (.type "type")) = true then PySem.W.subIn K (.ref C) (.ref D) else none) = _
  rw [hc, i.tt, if_pos (by rfl)]
  exact h.a
end Way

/-! list.extend by a tuple -/
namespace Way
open PySem PySem.Spec PyProof.Rows L2
section
open PySem.AutoSeq1
theorem ext_tup (j : Addr) (us : Array Value) (n : Nat) (b : Addr) (ws : Array Value) (m : Nat) (d : Option Addr) (sl : Array (Option Value)) (h0 : ¬(!us.isEmpty && Builtin.List.listTooLong (us.size + ws.size)) = true) (h1 : us.size ≤ sizeLine) (h2 : us.size + ws.size ≤ sizeLine + 1) :
    Meets (Builtin.«list.extend» ⟨[.ref j, .ref b], []⟩) (fun _ R z => z.heap.get? j = some { cls := .type "list", dict := none, data := .seq us n, slots := #[] } ∧ z.heap.get? b = some { cls := .type "tuple", dict := d, data := .seq ws m, slots := sl } ∧ R (.ok (.ret Value.none)) { z with heap := z.heap.update j (Obj.mapSeq fun x => x ++ ws), toks := z.toks }) :=
  .of_wp fun prog w A R z h => by
    obtain ⟨hp, g, dr, tk, os⟩ := z
    obtain ⟨hl, hb, h⟩ := h
    have f1 := idx_int
    have f2 := PySem.AutoSeq1.sub_tuple_tuple
    have f3 := PySem.AutoSeq1.sub_list_list
    have f4 := PySem.AutoSeq1.sub_tuple_list
    have f5 := PySem.AutoSeq1.sub_list_tuple
    have hz' : (us ++ ws).size ≤ sizeLine + 1 := by rw [Array.size_append]; exact h2
    wp_walk using (wpAny_updateSeq hl rfl (hz := h1) (_hz' := hz')), wpAny_loadPart' hl, wpAny_loadPart' hb
    exact ⟨_, rfl, h⟩
end
section
variable {X : Cx}
/-- l.extend(a list or tuple) -/
def rExt (K : PySem.W.Frag) : V → List V → Hp → VK → Prop := fun x vs H Q => ∃ l b xs zs, x = .ref l ∧ vs = [.ref b] ∧ H l = some (.lst xs) ∧ SqT K H b zs ∧ xs.length + zs.length ≤ sizeLine ∧ Q .non (upd H l (.lst (xs ++ zs)))
theorem mt_extT : MtM X "list.extend" (rExt X.K) := by
  intro pins z σ H x vs v us Q I rx rv h
  obtain ⟨j, b, xs, zs, rfl, rfl, hH, hB, hz, q⟩ := h
  cases rx
  obtain ⟨u, rfl, ru⟩ := rv.one
  cases ru
  obtain ⟨_, its, n, r, hl, e⟩ := I.lstM hH
  obtain ⟨its2, r2, ⟨o, e2, hc, m, hd⟩, _⟩ := I.tuple hB
  obtain ⟨oc, od, odt, osl⟩ := o
  have hc' : oc = .type "tuple" := hc
  have hd' : odt = .seq its2.toArray m := hd
  subst hc' hd'
  have l1 := r.length
  have l2 := r2.length
  have hsz : its.toArray.size + its2.toArray.size ≤ sizeLine := by rw [List.size_toArray, List.size_toArray]; omega
  have hlong : ¬ (!its.toArray.isEmpty && Builtin.List.listTooLong (its.toArray.size + its2.toArray.size)) = true := by
    rw [notLongL hsz, Bool.and_false]
    exact Bool.false_ne_true
  refine call_meets F.slot_list_extend ⟨_, e, rfl⟩ F.entry_list_extend (F.args_list_extend_2 _ _) (ext_tup j its.toArray n b its2.toArray m od osl hlong (by rw [List.size_toArray]; omega) (by omega)) ⟨e, e2, ?_⟩
  refine ⟨.non, _, I.lset (its' := its ++ its2) hH e (by simp) (r.append r2) ?_, rfl, q⟩
  rw [List.length_append]
  omega
end
end Way

/-! evaluations of many kinds -/
namespace Way
open PySem PySem.Spec PyProof.Rows L2 Evl
section
variable {K : PySem.W.Frag} {H H' H0 : Hp} {σ : L2.St} {j : Nat} {E : XK} {tu tv te tl ta tb ty td : TE} {v u : V} {t : TT} {D : Ends} {tz : TS}
theorem el_listN {p : Addr} {xs : List V} {ta : TE} (ha : Ev ta σ H (.ref p)) (h : Sq2 K H p xs) : EvL (tCB (fun xs H Q => ∃ p ys, xs = [V.ref p] ∧ (SqL K H p ys ∨ SqT K H p ys) ∧ ∀ l, H l = none → Q (.ref l) (upd H l (.lst ys))) (tCons ta tNil)) σ H xs := fun H1 e Q q =>
  ha H1 e _ fun H2 e2 => ⟨p, xs, rfl, h.mono (e.trans e2), fun t ht => q t _ (fresh_back e2 ht) (e2.trans (Ex.new ht)) upd_same⟩
/-- told and due -/
theorem ev_ix {i : Nat} {l : Addr} {xs : List V} {v : V} (j : Nat) (hσ : σ[i]? = some (some (.ref l))) (hl : H l = some (.lst xs)) (hj : xs[j]? = some v) : Ev (tOp (rIxL K) (tVar i) (tC (.int (j : Int)))) σ H v := ev_op (ev_var hσ) ev_c (rv_ixL (sq_of hl) (at_of (j := j) rfl hj))
theorem el_catL {σ : L2.St} {H : Hp} {ta tb : TE} {xs ys : List V} (h : EvL ta σ H xs) (h2 : EvL tb σ H ys) (hl : xs.length + ys.length ≤ 100000) : EvL (tOp rCat ta tb) σ H (xs ++ ys) := fun H1 e Q q =>
  h H1 e _ fun p H2 hn e2 hp => h2 H2 (e.trans e2) _ fun p' H3 hn3 e3 h3 => ⟨p, p', xs, ys, rfl, rfl, e3 _ _ hp, h3, sz_of hl, fun t ht => q t _ (fresh_back (e2.trans e3) ht) ((e2.trans e3).trans (Ex.new ht)) upd_same⟩
theorem el_catLV {ta tb : TE} {xs ys : List V} {p : Addr} (h : EvL ta σ H xs) (h2 : Ev tb σ H (.ref p)) (hp : H p = some (.lst ys)) (hl : xs.length + ys.length ≤ 100000) : EvL (tOp rCat ta tb) σ H (xs ++ ys) := fun H1 e Q q =>
  h H1 e _ fun p' H2 hn e2 h2' => h2 H2 (e.trans e2) _ fun H3 e3 => ⟨p', p, xs, ys, rfl, rfl, e3 _ _ h2', (e.trans (e2.trans e3)) _ _ hp, sz_of hl, fun t ht => q t _ (fresh_back (e2.trans e3) ht) ((e2.trans e3).trans (Ex.new ht)) upd_same⟩
theorem ev_isTy {t T : String} {b : Bool} (h : Ev te σ H v) (p : ∀ H1, Ex H H1 → TyX K H1 v (.type t)) (e : kitB t T = some b) : Ev (tCB (rIsi K) (tCons te (tCons (tC (.ty T)) tNil))) σ H (.bl b) :=
  ev_cb (ea_cons h (ea_cons ev_c ea_nil)) (rc_isi (.ty T) p (kit_ty e))
theorem pr_snoc {α : Type} {R : V → α → Prop} {xs : List V} {ys : List α} {x : V} {y : α} (h : Paired R xs ys) (k : R x y) : Paired R (xs ++ [x]) (ys ++ [y]) := by
  induction h with
  | nil => exact .cons k .nil
  | cons a _ ih => exact .cons a ih
theorem pr_set {α : Type} {R : V → α → Prop} {x : V} {y : α} (r : R x y) : ∀ {xs : List V} {ys : List α} (j : Nat), Paired R xs ys → Paired R (xs.set j x) (ys.set j y)
  | _, _, _, .nil => .nil
  | _, _, 0, .cons _ t => .cons r t
  | _, _, j + 1, .cons a t => .cons a (pr_set r j t)
theorem ite_b {A B : Prop} {b : Bool} (h1 : b = true → A) (h2 : b = false → B) : if b = true then A else B := by
  cases b with
  | true => exact h1 rfl
  | false => exact h2 rfl
theorem tt_and {t u : TT} {a : Bool} {Q : Bool → Hp → Prop} (h : EvT t σ H a) (h1 : a = true → ∀ H1, Ex H H1 → u σ H1 Q) (h2 : a = false → ∀ H1, Ex H H1 → Q false H1) : tAnd t u σ H Q := h H (Ex.refl H) _ fun H1 e => by
  cases a with
  | true => exact h1 rfl H1 e
  | false => exact h2 rfl H1 e
theorem ev_din {a : Addr} {kvs : List (Key × V)} {n : Str} (h1 : Ev ty σ H (.str n)) (h2 : Ev td σ H (.ref a)) (h : H a = some (.dK kvs)) : Ev (tDIn ty td) σ H (.bl (valV kvs (.inr n)).isSome) := fun H1 e Q q =>
  h1 H1 e _ fun H2 e2 => h2 H2 (e.trans e2) _ fun H3 e3 => ⟨a, _, rfl, DGet.k (k := .inr n) ((e.trans (e2.trans e3)) _ _ h), q H3 (e2.trans e3)⟩
theorem ev_dnotin {a : Addr} {kvs : List (Key × V)} {n : Str} (h1 : Ev ty σ H (.str n)) (h2 : Ev td σ H (.ref a)) (h : H a = some (.dK kvs)) : Ev (tDNotIn ty td) σ H (.bl (!(valV kvs (.inr n)).isSome)) := fun H1 e Q q =>
  h1 H1 e _ fun H2 e2 => h2 H2 (e.trans e2) _ fun H3 e3 => ⟨a, _, rfl, DGet.k (k := .inr n) ((e.trans (e2.trans e3)) _ _ h), q H3 (e2.trans e3)⟩
theorem el_ifE {b : Bool} {xs : List V} (h : EvT t σ H b) (h1 : b = true → EvL ta σ H xs) (h2 : b = false → EvL tb σ H xs) : EvL (tIf t ta tb) σ H xs := fun H1 e Q q =>
  h H1 e _ fun H2 e2 => by
    cases b with
    | true => exact iteT (h1 rfl H2 (e.trans e2) Q fun p H3 hn e3 hp => q p H3 (fresh_back e2 hn) (e2.trans e3) hp)
    | false => exact iteF (h2 rfl H2 (e.trans e2) Q fun p H3 hn e3 hp => q p H3 (fresh_back e2 hn) (e2.trans e3) hp)
theorem q_ext {l b : Addr} {xs zs : List V} (hl : H l = some (.lst xs)) (ha : Ev ta σ H (.ref l)) (h : Ev te σ H (.ref b)) (hb : SqT K H b zs) (hz : xs.length + zs.length ≤ 100000) (k : ∀ H1, Ex H H1 → tz D σ (upd H1 l (.lst (xs ++ zs)))) :
    tSeq (tDrop (tBM K "list" (rExt K) ta (tCons te tNil))) tz D σ H := ha H (Ex.refl H) _ fun H1 e1 => ⟨Or.inl ⟨rfl, xs, sq_of (e1 _ _ hl)⟩, h H1 e1 _ fun H2 e2 => ⟨l, b, xs, zs, rfl, rfl, (e1.trans e2) _ _ hl, ex_t (e1.trans e2) hb, sz_of hz, k H2 (e1.trans e2)⟩⟩
theorem inV_strs (x : Str) : ∀ ns : List Str, inV (.str x) (ns.map V.str) = decide (x ∈ ns)
  | [] => rfl
  | y :: r => by
    have ih := inV_strs x r
    unfold inV at ih ⊢
    rw [List.map_cons, List.any_cons, ih]
    by_cases e : x = y
    · subst e
      simp [eqV]
    · have e2 : eqV (.str y) (.str x) = false := by simp [eqV, Ne.symm e]
      rw [e2, Bool.false_or]
      exact decide_eq_decide.mpr (by rw [List.mem_cons]; exact ⟨.inr, fun z => z.elim (fun q => absurd q e) id⟩)
/-- [n for n in a tuple of texts if t] -/
theorem el_fltS {p : Addr} {ns : List Str} {i : Nat} {vs : List Nat} {g : Str → Bool} (h : Ev tl σ H (.ref p)) (hs : SqT K H p (ns.map V.str)) (hz : ns.length ≤ 40000) (hj : i < σ.length) (hw : ∀ x, wipe ((wipe σ vs).set i (some x)) vs = wipe σ vs)
    (ht : ∀ (n : Str) H1, Ex H H1 → n ∈ ns → EvT t ((wipe σ vs).set i (some (.str n))) H1 (g n)) : EvL (tLc (iTup K tl) (gName i) t (tVar i) vs) σ H ((ns.filter g).map V.str) := by
  have e : (ns.map V.str).filter (fun v => match v with | .str n => g n | _ => false) = (ns.filter g).map V.str := by
    rw [List.filter_map]; rfl
  rw [← e]
  refine el_fltT (K := K) h hs (by rw [List.length_map]; exact hz) hj hw fun x H1 X1 hx => ?_
  obtain ⟨n, hn, rfl⟩ := List.mem_map.mp hx
  exact ht n H1 X1 hn
/-- the same over a list -/
theorem el_fltSL {p : Addr} {ns : List Str} {i : Nat} {vs : List Nat} {g : Str → Bool} (h : Ev tl σ H (.ref p)) (hs : SqL K H p (ns.map V.str)) (hz : ns.length ≤ 40000) (hj : i < σ.length) (hw : ∀ x, wipe ((wipe σ vs).set i (some x)) vs = wipe σ vs)
    (ht : ∀ (n : Str) H1, Ex H H1 → n ∈ ns → EvT t ((wipe σ vs).set i (some (.str n))) H1 (g n)) : EvL (tLc (iList K tl) (gName i) t (tVar i) vs) σ H ((ns.filter g).map V.str) := by
  have eq : given (ns.map V.str).length (fun i => (ns[i]?.map g).getD false) (fun i => (ns.map V.str).getD i .non) = (ns.filter g).map V.str := by
    have := given_flt (R := fun x y => x = V.str y) (g := g) (f := fun i => (ns[i]?.map g).getD false) (v := fun i => (ns.map V.str).getD i .non) (xs := ns.map V.str) (S := ns) ?_ fun i x y e1 e2 => ⟨by rw [e2]; rfl, by rw [List.getD_eq_getElem?_getD, e1]; rfl⟩
    · clear ht hs h hz
      revert this
      generalize given (ns.map V.str).length (fun i => (ns[i]?.map g).getD false) (fun i => (ns.map V.str).getD i .non) = as
      generalize ns.filter g = bs
      intro this
      induction this with
      | nil => rfl
      | cons a _ ih => rw [a, ih]; rfl
    · clear ht hs h hz
      induction ns with
      | nil => exact .nil
      | cons a r ih => exact .cons rfl ih
  rw [← eq]
  refine el_lcL (K := K) (fun i => (ns[i]?.map g).getD false) (fun i => (ns.map V.str).getD i .non) h hs (by rw [List.length_map]; exact hz) hw (fun i x H2 e2 hi => ?_) (fun i x H2 e2 hi _ => ?_)
  · rw [List.getElem?_map] at hi
    cases q : ns[i]? with
    | none => rw [q] at hi; cases hi
    | some n =>
      rw [q] at hi
      cases hi
      exact ht n H2 e2 (List.mem_of_getElem? q)
  · have ed : (ns.map V.str).getD i .non = x := by rw [List.getD_eq_getElem?_getD, hi]; rfl
    rw [ed]
    refine ev_var ?_
    rw [List.getElem?_set_self (by rw [wipe_length]; exact hj)]
end
end Way

namespace K03
open PySem L2 Way Evl
def top (i : Nat) : Stmt := PySem.Challenge.pw_waypairs_k03_houses_refused.main.body.getD i (.Pass ⟨0, 0, 0, 0⟩)
abbrev s_BadField_init : Stmt := inClass (top 3) 0
abbrev N_BadField_init : List Str := ["self", "name", "__class__"]
abbrev P_BadField_init : List Str := ["self", "name"]
theorem sc_BadField_init : NdefX.NScope N_BadField_init P_BadField_init ["__class__"] (defScope s_BadField_init) := NdefX.nscope_by (by decide +kernel)
abbrev s_BadKind_init : Stmt := inClass (top 4) 0
abbrev N_BadKind_init : List Str := ["self", "name", "__class__"]
abbrev P_BadKind_init : List Str := ["self", "name"]
theorem sc_BadKind_init : NdefX.NScope N_BadKind_init P_BadKind_init ["__class__"] (defScope s_BadKind_init) := NdefX.nscope_by (by decide +kernel)
abbrev s_BadHouse_init : Stmt := inClass (top 5) 0
abbrev N_BadHouse_init : List Str := ["self", "name", "__class__"]
abbrev P_BadHouse_init : List Str := ["self", "name"]
theorem sc_BadHouse_init : NdefX.NScope N_BadHouse_init P_BadHouse_init ["__class__"] (defScope s_BadHouse_init) := NdefX.nscope_by (by decide +kernel)
abbrev s_UnknownKind_init : Stmt := inClass (top 6) 0
abbrev N_UnknownKind_init : List Str := ["self", "name", "__class__"]
abbrev P_UnknownKind_init : List Str := ["self", "name"]
theorem sc_UnknownKind_init : NdefX.NScope N_UnknownKind_init P_UnknownKind_init ["__class__"] (defScope s_UnknownKind_init) := NdefX.nscope_by (by decide +kernel)
abbrev s_is_integer : Stmt := top 11
abbrev N_is_integer : List Str := ["thing"]
abbrev P_is_integer : List Str := ["thing"]
theorem sc_is_integer : FnScope N_is_integer P_is_integer (defScope s_is_integer) := ⟨rfl, rfl, rfl, by decide +kernel, rfl, by decide +kernel, by decide +kernel⟩
abbrev s_is_letters : Stmt := top 12
abbrev N_is_letters : List Str := ["text", "letter"]
abbrev P_is_letters : List Str := ["text"]
theorem sc_is_letters : FnScope N_is_letters P_is_letters (defScope s_is_letters) := ⟨rfl, rfl, rfl, by decide +kernel, rfl, by decide +kernel, by decide +kernel⟩
abbrev s_is_kind_name : Stmt := top 13
abbrev N_is_kind_name : List Str := ["thing"]
abbrev P_is_kind_name : List Str := ["thing"]
theorem sc_is_kind_name : FnScope N_is_kind_name P_is_kind_name (defScope s_is_kind_name) := ⟨rfl, rfl, rfl, by decide +kernel, rfl, by decide +kernel, by decide +kernel⟩
abbrev s_is_field_name : Stmt := top 14
abbrev N_is_field_name : List Str := ["thing"]
abbrev P_is_field_name : List Str := ["thing"]
theorem sc_is_field_name : FnScope N_is_field_name P_is_field_name (defScope s_is_field_name) := ⟨rfl, rfl, rfl, by decide +kernel, rfl, by decide +kernel, by decide +kernel⟩
abbrev s_is_target : Stmt := top 19
abbrev N_is_target : List Str := ["thing"]
abbrev P_is_target : List Str := ["thing"]
theorem sc_is_target : FnScope N_is_target P_is_target (defScope s_is_target) := ⟨rfl, rfl, rfl, by decide +kernel, rfl, by decide +kernel, by decide +kernel⟩
abbrev s_fits_mode : Stmt := top 20
abbrev N_fits_mode : List Str := ["mode", "target", "default"]
abbrev P_fits_mode : List Str := ["mode", "target", "default"]
theorem sc_fits_mode : FnScope N_fits_mode P_fits_mode (defScope s_fits_mode) := ⟨rfl, rfl, rfl, by decide +kernel, rfl, by decide +kernel, by decide +kernel⟩
abbrev s_are_elder_names : Stmt := top 21
abbrev N_are_elder_names : List Str := ["name", "was", "one"]
abbrev P_are_elder_names : List Str := ["name", "was"]
theorem sc_are_elder_names : FnScope N_are_elder_names P_are_elder_names (defScope s_are_elder_names) := ⟨rfl, rfl, rfl, by decide +kernel, rfl, by decide +kernel, by decide +kernel⟩
abbrev s_Field_init : Stmt := inClass (top 22) 0
abbrev N_Field_init : List Str := ["self", "name", "mode", "target", "default", "was"]
abbrev P_Field_init : List Str := ["self", "name", "mode", "target", "default", "was"]
theorem sc_Field_init : FnScope N_Field_init P_Field_init (defScope s_Field_init) := ⟨rfl, rfl, rfl, by decide +kernel, rfl, by decide +kernel, by decide +kernel⟩
abbrev s_are_fields : Stmt := top 23
abbrev N_are_fields : List Str := ["thing", "most", "one"]
abbrev P_are_fields : List Str := ["thing", "most"]
theorem sc_are_fields : FnScope N_are_fields P_are_fields (defScope s_are_fields) := ⟨rfl, rfl, rfl, by decide +kernel, rfl, by decide +kernel, by decide +kernel⟩
abbrev s_fits_flags : Stmt := top 24
abbrev N_fits_flags : List Str := ["frozen", "heirs", "registered"]
abbrev P_fits_flags : List Str := ["frozen", "heirs", "registered"]
theorem sc_fits_flags : FnScope N_fits_flags P_fits_flags (defScope s_fits_flags) := ⟨rfl, rfl, rfl, by decide +kernel, rfl, by decide +kernel, by decide +kernel⟩
abbrev s_Kind_init : Stmt := inClass (top 25) 0
abbrev N_Kind_init : List Str := ["self", "name", "fields", "base", "frozen", "heirs", "key", "registered"]
abbrev P_Kind_init : List Str := ["self", "name", "fields", "base", "frozen", "heirs", "key", "registered"]
theorem sc_Kind_init : FnScope N_Kind_init P_Kind_init (defScope s_Kind_init) := ⟨rfl, rfl, rfl, by decide +kernel, rfl, by decide +kernel, by decide +kernel⟩
abbrev s_gathered : Stmt := top 26
abbrev N_gathered : List Str := ["kind", "earlier", "fields"]
abbrev P_gathered : List Str := ["kind", "earlier"]
theorem sc_gathered : FnScope N_gathered P_gathered (defScope s_gathered) := ⟨rfl, rfl, rfl, by decide +kernel, rfl, by decide +kernel, by decide +kernel⟩
abbrev s_fits_house : Stmt := top 27
abbrev N_fits_house : List Str := ["kind", "earlier", "names", "fields", "one"]
abbrev P_fits_house : List Str := ["kind", "earlier", "names"]
theorem sc_fits_house : FnScope N_fits_house P_fits_house (defScope s_fits_house) := ⟨rfl, rfl, rfl, by decide +kernel, rfl, by decide +kernel, by decide +kernel⟩
abbrev s_House_init : Stmt := inClass (top 28) 2
abbrev N_House_init : List Str := ["self", "root", "kinds", "names", "earlier", "described", "kind"]
abbrev P_House_init : List Str := ["self", "root", "kinds"]
theorem sc_House_init : FnScope N_House_init P_House_init (defScope s_House_init) := ⟨rfl, rfl, rfl, by decide +kernel, rfl, by decide +kernel, by decide +kernel⟩
abbrev s_House_leads_wrongly : Stmt := inClass (top 28) 3
abbrev N_House_leads_wrongly : List Str := ["self", "kind", "name"]
abbrev P_House_leads_wrongly : List Str := ["self", "kind"]
theorem sc_House_leads_wrongly : FnScope N_House_leads_wrongly P_House_leads_wrongly (defScope s_House_leads_wrongly) := ⟨rfl, rfl, rfl, by decide +kernel, rfl, by decide +kernel, by decide +kernel⟩
abbrev s_House_len : Stmt := inClass (top 28) 4
abbrev N_House_len : List Str := ["self"]
abbrev P_House_len : List Str := ["self"]
theorem sc_House_len : FnScope N_House_len P_House_len (defScope s_House_len) := ⟨rfl, rfl, rfl, by decide +kernel, rfl, by decide +kernel, by decide +kernel⟩
abbrev s_House_contains : Stmt := inClass (top 28) 5
abbrev N_House_contains : List Str := ["self", "thing"]
abbrev P_House_contains : List Str := ["self", "thing"]
theorem sc_House_contains : FnScope N_House_contains P_House_contains (defScope s_House_contains) := ⟨rfl, rfl, rfl, by decide +kernel, rfl, by decide +kernel, by decide +kernel⟩
abbrev s_House_kind_named : Stmt := inClass (top 28) 8
abbrev N_House_kind_named : List Str := ["self", "kind"]
abbrev P_House_kind_named : List Str := ["self", "kind"]
theorem sc_House_kind_named : FnScope N_House_kind_named P_House_kind_named (defScope s_House_kind_named) := ⟨rfl, rfl, rfl, by decide +kernel, rfl, by decide +kernel, by decide +kernel⟩
abbrev s_House_fields_of : Stmt := inClass (top 28) 9
abbrev N_House_fields_of : List Str := ["self", "kind"]
abbrev P_House_fields_of : List Str := ["self", "kind"]
theorem sc_House_fields_of : FnScope N_House_fields_of P_House_fields_of (defScope s_House_fields_of) := ⟨rfl, rfl, rfl, by decide +kernel, rfl, by decide +kernel, by decide +kernel⟩
abbrev s_House_admitted : Stmt := inClass (top 28) 21
abbrev N_House_admitted : List Str := ["self", "target", "head", "name"]
abbrev P_House_admitted : List Str := ["self", "target"]
theorem sc_House_admitted : FnScope N_House_admitted P_House_admitted (defScope s_House_admitted) := ⟨rfl, rfl, rfl, by decide +kernel, rfl, by decide +kernel, by decide +kernel⟩
abbrev s_House_leads : Stmt := inClass (top 28) 22
abbrev N_House_leads : List Str := ["self", "kind", "met", "field", "name"]
abbrev P_House_leads : List Str := ["self", "kind"]
theorem sc_House_leads : FnScope N_House_leads P_House_leads (defScope s_House_leads) := ⟨rfl, rfl, rfl, by decide +kernel, rfl, by decide +kernel, by decide +kernel⟩
abbrev s_House_leads_far : Stmt := inClass (top 28) 23
abbrev N_House_leads_far : List Str := ["self", "kind", "met", "waiting", "name"]
abbrev P_House_leads_far : List Str := ["self", "kind"]
theorem sc_House_leads_far : FnScope N_House_leads_far P_House_leads_far (defScope s_House_leads_far) := ⟨rfl, rfl, rfl, by decide +kernel, rfl, by decide +kernel, by decide +kernel⟩
abbrev s_pen : Stmt := top 30
abbrev N_pen : List Str := ["_law_script", "_law_total", "_law_cell"]
abbrev P_pen : List Str := ["_law_script"]
theorem sc_pen : FnScope N_pen P_pen (defScope s_pen) := ⟨rfl, rfl, rfl, by decide +kernel, rfl, by decide +kernel, by decide +kernel⟩
abbrev s_take : Stmt := top 31
abbrev N_take : List Str := ["_law_pen_here", "_law_bound", "_law_cell", "_law_mixed", "_law_digit"]
abbrev P_take : List Str := ["_law_pen_here", "_law_bound"]
theorem sc_take : FnScope N_take P_take (defScope s_take) := ⟨rfl, rfl, rfl, by decide +kernel, rfl, by decide +kernel, by decide +kernel⟩
abbrev s_one_of : Stmt := top 32
abbrev N_one_of : List Str := ["_law_pen_here", "_law_menu"]
abbrev P_one_of : List Str := ["_law_pen_here", "_law_menu"]
theorem sc_one_of : FnScope N_one_of P_one_of (defScope s_one_of) := ⟨rfl, rfl, rfl, by decide +kernel, rfl, by decide +kernel, by decide +kernel⟩
abbrev s_word : Stmt := top 33
abbrev N_word : List Str := ["_law_pen_here", "_law_place", "_law_index", "_law_plain", "_law_most", "_law_letters", "_law_size", "_law_word_here", "_law_k"]
abbrev P_word : List Str := ["_law_pen_here", "_law_place", "_law_index", "_law_plain", "_law_most"]
theorem sc_word : FnScope N_word P_word (defScope s_word) := ⟨rfl, rfl, rfl, by decide +kernel, rfl, by decide +kernel, by decide +kernel⟩
abbrev s_words : Stmt := top 34
abbrev N_words : List Str := ["_law_pen_here", "_law_count", "_law_most", "_law_plain", "_law_place", "_law_offset", "_law_k"]
abbrev P_words : List Str := ["_law_pen_here", "_law_count", "_law_most"]
theorem sc_words : FnScope N_words P_words (defScope s_words) := ⟨rfl, rfl, rfl, by decide +kernel, rfl, by decide +kernel, by decide +kernel⟩
abbrev s_kind_names : Stmt := top 35
abbrev N_kind_names : List Str := ["_law_pen_here", "_law_count", "_law_word_here"]
abbrev P_kind_names : List Str := ["_law_pen_here", "_law_count"]
theorem sc_kind_names : FnScope N_kind_names P_kind_names (defScope s_kind_names) := ⟨rfl, rfl, rfl, by decide +kernel, rfl, by decide +kernel, by decide +kernel⟩
abbrev s_row : Stmt := top 36
abbrev N_row : List Str := ["_law_rows", "_law_name", "_law_row_here"]
abbrev P_row : List Str := ["_law_rows", "_law_name"]
theorem sc_row : FnScope N_row P_row (defScope s_row) := ⟨rfl, rfl, rfl, by decide +kernel, rfl, by decide +kernel, by decide +kernel⟩
abbrev s_all_fields : Stmt := top 37
abbrev N_all_fields : List Str := ["_law_rows", "_law_name", "_law_row_here"]
abbrev P_all_fields : List Str := ["_law_rows", "_law_name"]
theorem sc_all_fields : FnScope N_all_fields P_all_fields (defScope s_all_fields) := ⟨rfl, rfl, rfl, by decide +kernel, rfl, by decide +kernel, by decide +kernel⟩
abbrev s_admitted : Stmt := top 38
abbrev N_admitted : List Str := ["_law_rows", "_law_own_target", "_law_row_here"]
abbrev P_admitted : List Str := ["_law_rows", "_law_own_target"]
theorem sc_admitted : FnScope N_admitted P_admitted (defScope s_admitted) := ⟨rfl, rfl, rfl, by decide +kernel, rfl, by decide +kernel, by decide +kernel⟩
abbrev s_leads : Stmt := top 39
abbrev N_leads : List Str := ["_law_rows", "_law_name", "_law_found", "_law_field_here", "_law_row_here"]
abbrev P_leads : List Str := ["_law_rows", "_law_name"]
theorem sc_leads : FnScope N_leads P_leads (defScope s_leads) := ⟨rfl, rfl, rfl, by decide +kernel, rfl, by decide +kernel, by decide +kernel⟩
abbrev s_leads_far : Stmt := top 40
abbrev N_leads_far : List Str := ["_law_rows", "_law_name", "_law_found", "_law_turn", "_law_more", "_law_one", "_law_row_here"]
abbrev P_leads_far : List Str := ["_law_rows", "_law_name"]
theorem sc_leads_far : FnScope N_leads_far P_leads_far (defScope s_leads_far) := ⟨rfl, rfl, rfl, by decide +kernel, rfl, by decide +kernel, by decide +kernel⟩
abbrev s_was : Stmt := top 41
abbrev N_was : List Str := ["_law_pen_here", "_law_name", "_law_pool", "_law_elder", "_law_shift", "_law_word_here"]
abbrev P_was : List Str := ["_law_pen_here", "_law_name", "_law_pool"]
theorem sc_was : FnScope N_was P_was (defScope s_was) := ⟨rfl, rfl, rfl, by decide +kernel, rfl, by decide +kernel, by decide +kernel⟩
abbrev s_field : Stmt := top 42
abbrev N_field : List Str := ["_law_pen_here", "_law_name", "_law_names", "_law_pool", "_law_leaf", "_law_own_was", "_law_mode", "_law_shift"]
abbrev P_field : List Str := ["_law_pen_here", "_law_name", "_law_names", "_law_pool", "_law_leaf"]
theorem sc_field : FnScope N_field P_field (defScope s_field) := ⟨rfl, rfl, rfl, by decide +kernel, rfl, by decide +kernel, by decide +kernel⟩
abbrev s_flavour : Stmt := top 43
abbrev N_flavour : List Str := ["_law_pen_here", "_law_rows", "_law_flavours", "_law_row_here"]
abbrev P_flavour : List Str := ["_law_pen_here", "_law_rows"]
theorem sc_flavour : FnScope N_flavour P_flavour (defScope s_flavour) := ⟨rfl, rfl, rfl, by decide +kernel, rfl, by decide +kernel, by decide +kernel⟩
abbrev s_new_row : Stmt := top 44
abbrev N_new_row : List Str := ["_law_pen_here", "_law_rows", "_law_names", "_law_pool", "_law_flavour_here", "_law_own_base", "_law_held", "_law_leaf", "_law_least", "_law_shift", "_law_free", "_law_own", "_law_k", "_law_own_key", "_law_marks_alone", "_law_row_here", "_law_word_here", "_law_field_here"]
abbrev P_new_row : List Str := ["_law_pen_here", "_law_rows", "_law_names", "_law_pool"]
theorem sc_new_row : FnScope N_new_row P_new_row (defScope s_new_row) := ⟨rfl, rfl, rfl, by decide +kernel, rfl, by decide +kernel, by decide +kernel⟩
abbrev s_house_rows : Stmt := top 45
abbrev N_house_rows : List Str := ["_law_pen_here", "_law_most", "_law_names", "_law_pool", "_law_rows", "_law_name", "_law_row_here", "_law_far", "_law_one"]
abbrev P_house_rows : List Str := ["_law_pen_here", "_law_most"]
theorem sc_house_rows : FnScope N_house_rows P_house_rows (defScope s_house_rows) := ⟨rfl, rfl, rfl, by decide +kernel, rfl, by decide +kernel, by decide +kernel⟩
abbrev s_root : Stmt := top 46
abbrev N_root : List Str := ["_law_pen_here", "_law_rows", "_law_row_here"]
abbrev P_root : List Str := ["_law_pen_here", "_law_rows"]
theorem sc_root : FnScope N_root P_root (defScope s_root) := ⟨rfl, rfl, rfl, by decide +kernel, rfl, by decide +kernel, by decide +kernel⟩
abbrev s_made_field : Stmt := top 47
abbrev N_made_field : List Str := ["_law_field_here"]
abbrev P_made_field : List Str := ["_law_field_here"]
theorem sc_made_field : FnScope N_made_field P_made_field (defScope s_made_field) := ⟨rfl, rfl, rfl, by decide +kernel, rfl, by decide +kernel, by decide +kernel⟩
abbrev s_made_kind : Stmt := top 48
abbrev N_made_kind : List Str := ["_law_row_here", "_law_fields", "_law_field_here"]
abbrev P_made_kind : List Str := ["_law_row_here"]
theorem sc_made_kind : FnScope N_made_kind P_made_kind (defScope s_made_kind) := ⟨rfl, rfl, rfl, by decide +kernel, rfl, by decide +kernel, by decide +kernel⟩
abbrev s_longer : Stmt := top 50
abbrev N_longer : List Str := ["_law_pen_here", "_law_row_here", "_law_names", "_law_pool", "_law_shift", "_law_turned", "_law_own", "_law_k"]
abbrev P_longer : List Str := ["_law_pen_here", "_law_row_here", "_law_names", "_law_pool"]
theorem sc_longer : FnScope N_longer P_longer (defScope s_longer) := ⟨rfl, rfl, rfl, by decide +kernel, rfl, by decide +kernel, by decide +kernel⟩
abbrev s_based : Stmt := top 51
abbrev N_based : List Str := ["_law_pen_here", "_law_row_here", "_law_names", "_law_own_base"]
abbrev P_based : List Str := ["_law_pen_here", "_law_row_here", "_law_names"]
theorem sc_based : FnScope N_based P_based (defScope s_based) := ⟨rfl, rfl, rfl, by decide +kernel, rfl, by decide +kernel, by decide +kernel⟩
abbrev s_keyed : Stmt := top 52
abbrev N_keyed : List Str := ["_law_pen_here", "_law_row_here", "_law_pool", "_law_field_here"]
abbrev P_keyed : List Str := ["_law_pen_here", "_law_row_here", "_law_pool"]
theorem sc_keyed : FnScope N_keyed P_keyed (defScope s_keyed) := ⟨rfl, rfl, rfl, by decide +kernel, rfl, by decide +kernel, by decide +kernel⟩
abbrev s_bent : Stmt := top 53
abbrev N_bent : List Str := ["_law_pen_here", "_law_rows", "_law_names", "_law_pool", "_law_row_here", "_law_way"]
abbrev P_bent : List Str := ["_law_pen_here", "_law_rows", "_law_names", "_law_pool"]
theorem sc_bent : FnScope N_bent P_bent (defScope s_bent) := ⟨rfl, rfl, rfl, by decide +kernel, rfl, by decide +kernel, by decide +kernel⟩
abbrev s_doubled : Stmt := top 54
abbrev N_doubled : List Str := ["_law_words_here", "_law_word_here"]
abbrev P_doubled : List Str := ["_law_words_here"]
theorem sc_doubled : FnScope N_doubled P_doubled (defScope s_doubled) := ⟨rfl, rfl, rfl, by decide +kernel, rfl, by decide +kernel, by decide +kernel⟩
abbrev s_mended : Stmt := top 55
abbrev N_mended : List Str := ["_law_rows", "_law_row_here", "_law_own", "_law_field_here", "_law_one"]
abbrev P_mended : List Str := ["_law_rows"]
theorem sc_mended : FnScope N_mended P_mended (defScope s_mended) := ⟨rfl, rfl, rfl, by decide +kernel, rfl, by decide +kernel, by decide +kernel⟩
abbrev s_kind_right : Stmt := top 56
abbrev N_kind_right : List Str := ["_law_rows", "_law_k", "_law_row_here", "_law_earlier", "_law_fields", "_law_names", "_law_one", "_law_field_here"]
abbrev P_kind_right : List Str := ["_law_rows", "_law_k"]
theorem sc_kind_right : FnScope N_kind_right P_kind_right (defScope s_kind_right) := ⟨rfl, rfl, rfl, by decide +kernel, rfl, by decide +kernel, by decide +kernel⟩
abbrev s_due : Stmt := top 57
abbrev N_due : List Str := ["_law_rows", "_law_root_here", "_law_k", "_law_row_here", "_law_far", "_law_one"]
abbrev P_due : List Str := ["_law_rows", "_law_root_here"]
theorem sc_due : FnScope N_due P_due (defScope s_due) := ⟨rfl, rfl, rfl, by decide +kernel, rfl, by decide +kernel, by decide +kernel⟩
abbrev s_told : Stmt := top 58
abbrev N_told : List Str := ["_law_rows", "_law_root_here", "_law_kinds", "e", "_law_row_here"]
abbrev P_told : List Str := ["_law_rows", "_law_root_here"]
theorem sc_told : FnScope N_told P_told (defScope s_told) := ⟨rfl, rfl, rfl, by decide +kernel, rfl, by decide +kernel, by decide +kernel⟩
abbrev s_counted : Stmt := top 59
abbrev N_counted : List Str := ["_law_pen_here", "_law_many", "_law_words_here", "_law_kinds", "_law_house", "e", "_law_word_here"]
abbrev P_counted : List Str := ["_law_pen_here", "_law_many"]
theorem sc_counted : FnScope N_counted P_counted (defScope s_counted) := ⟨rfl, rfl, rfl, by decide +kernel, rfl, by decide +kernel, by decide +kernel⟩
abbrev s_no_kinds : Stmt := top 60
abbrev N_no_kinds : List Str := ["_law_pen_here", "_law_rows", "_law_root_here", "_law_kinds", "_law_at", "_law_menu", "_law_told_here", "e", "_law_row_here"]
abbrev P_no_kinds : List Str := ["_law_pen_here", "_law_rows", "_law_root_here"]
theorem sc_no_kinds : FnScope N_no_kinds P_no_kinds (defScope s_no_kinds) := ⟨rfl, rfl, rfl, by decide +kernel, rfl, by decide +kernel, by decide +kernel⟩
abbrev s_law : Stmt := top 61
abbrev N_law : List Str := ["_law_script", "_law_pen_here", "_law_rows", "_law_root_here", "_law_names", "_law_pool", "_law_turn", "_law_other", "_law_row_here"]
abbrev P_law : List Str := ["_law_script"]
theorem sc_law : FnScope N_law P_law (defScope s_law) := ⟨rfl, rfl, rfl, by decide +kernel, rfl, by decide +kernel, by decide +kernel⟩
structure Txt (P : Program) (K : PySem.W.Frag) (mg : Str → Option Value) where
  f_BadField_init : Addr
  d_BadField_init : FuncData
  c_BadField_init : Addr
  cc_BadField_init : Addr
  B_BadField_init : Binds K d_BadField_init P_BadField_init []
  f_BadKind_init : Addr
  d_BadKind_init : FuncData
  c_BadKind_init : Addr
  cc_BadKind_init : Addr
  B_BadKind_init : Binds K d_BadKind_init P_BadKind_init []
  f_BadHouse_init : Addr
  d_BadHouse_init : FuncData
  c_BadHouse_init : Addr
  cc_BadHouse_init : Addr
  B_BadHouse_init : Binds K d_BadHouse_init P_BadHouse_init []
  f_UnknownKind_init : Addr
  d_UnknownKind_init : FuncData
  c_UnknownKind_init : Addr
  cc_UnknownKind_init : Addr
  B_UnknownKind_init : Binds K d_UnknownKind_init P_UnknownKind_init []
  f_is_integer : Addr
  d_is_integer : FuncData
  F_is_integer : Fun K "is_integer" "is_integer" s_is_integer f_is_integer d_is_integer
  B_is_integer : Binds K d_is_integer P_is_integer []
  g_is_integer : mg "is_integer" = some (.ref f_is_integer)
  f_is_letters : Addr
  d_is_letters : FuncData
  F_is_letters : Fun K "is_letters" "is_letters" s_is_letters f_is_letters d_is_letters
  B_is_letters : Binds K d_is_letters P_is_letters []
  g_is_letters : mg "is_letters" = some (.ref f_is_letters)
  f_is_kind_name : Addr
  d_is_kind_name : FuncData
  F_is_kind_name : Fun K "is_kind_name" "is_kind_name" s_is_kind_name f_is_kind_name d_is_kind_name
  B_is_kind_name : Binds K d_is_kind_name P_is_kind_name []
  g_is_kind_name : mg "is_kind_name" = some (.ref f_is_kind_name)
  f_is_field_name : Addr
  d_is_field_name : FuncData
  F_is_field_name : Fun K "is_field_name" "is_field_name" s_is_field_name f_is_field_name d_is_field_name
  B_is_field_name : Binds K d_is_field_name P_is_field_name []
  g_is_field_name : mg "is_field_name" = some (.ref f_is_field_name)
  f_is_target : Addr
  d_is_target : FuncData
  F_is_target : Fun K "is_target" "is_target" s_is_target f_is_target d_is_target
  B_is_target : Binds K d_is_target P_is_target []
  g_is_target : mg "is_target" = some (.ref f_is_target)
  f_fits_mode : Addr
  d_fits_mode : FuncData
  F_fits_mode : Fun K "fits_mode" "fits_mode" s_fits_mode f_fits_mode d_fits_mode
  B_fits_mode : Binds K d_fits_mode P_fits_mode []
  g_fits_mode : mg "fits_mode" = some (.ref f_fits_mode)
  f_are_elder_names : Addr
  d_are_elder_names : FuncData
  F_are_elder_names : Fun K "are_elder_names" "are_elder_names" s_are_elder_names f_are_elder_names d_are_elder_names
  B_are_elder_names : Binds K d_are_elder_names P_are_elder_names []
  g_are_elder_names : mg "are_elder_names" = some (.ref f_are_elder_names)
  f_Field_init : Addr
  d_Field_init : FuncData
  e0_Field_init : Addr
  et_Field_init : ∀ H, SqT K H e0_Field_init []
  F_Field_init : FunD K "__init__" "Field.__init__" (defArgs s_Field_init) (defBody s_Field_init) (defScope s_Field_init) [] [("target", .non), ("default", .int 0), ("was", .ref e0_Field_init)] f_Field_init d_Field_init
  f_are_fields : Addr
  d_are_fields : FuncData
  F_are_fields : Fun K "are_fields" "are_fields" s_are_fields f_are_fields d_are_fields
  B_are_fields : Binds K d_are_fields P_are_fields []
  g_are_fields : mg "are_fields" = some (.ref f_are_fields)
  f_fits_flags : Addr
  d_fits_flags : FuncData
  F_fits_flags : Fun K "fits_flags" "fits_flags" s_fits_flags f_fits_flags d_fits_flags
  B_fits_flags : Binds K d_fits_flags P_fits_flags []
  g_fits_flags : mg "fits_flags" = some (.ref f_fits_flags)
  f_Kind_init : Addr
  d_Kind_init : FuncData
  F_Kind_init : FunD K "__init__" "Kind.__init__" (defArgs s_Kind_init) (defBody s_Kind_init) (defScope s_Kind_init) [] [("base", .non), ("frozen", .bl false), ("heirs", .bl false), ("key", .non), ("registered", .bl false)] f_Kind_init d_Kind_init
  f_gathered : Addr
  d_gathered : FuncData
  F_gathered : Fun K "gathered" "gathered" s_gathered f_gathered d_gathered
  B_gathered : Binds K d_gathered P_gathered []
  g_gathered : mg "gathered" = some (.ref f_gathered)
  f_fits_house : Addr
  d_fits_house : FuncData
  F_fits_house : Fun K "fits_house" "fits_house" s_fits_house f_fits_house d_fits_house
  B_fits_house : Binds K d_fits_house P_fits_house []
  g_fits_house : mg "fits_house" = some (.ref f_fits_house)
  f_House_init : Addr
  d_House_init : FuncData
  F_House_init : Fun K "__init__" "House.__init__" s_House_init f_House_init d_House_init
  B_House_init : Binds K d_House_init P_House_init []
  f_House_leads_wrongly : Addr
  d_House_leads_wrongly : FuncData
  F_House_leads_wrongly : Fun K "leads_wrongly" "House.leads_wrongly" s_House_leads_wrongly f_House_leads_wrongly d_House_leads_wrongly
  B_House_leads_wrongly : Binds K d_House_leads_wrongly P_House_leads_wrongly []
  f_House_len : Addr
  d_House_len : FuncData
  F_House_len : Fun K "__len__" "House.__len__" s_House_len f_House_len d_House_len
  B_House_len : Binds K d_House_len P_House_len []
  f_House_contains : Addr
  d_House_contains : FuncData
  F_House_contains : Fun K "__contains__" "House.__contains__" s_House_contains f_House_contains d_House_contains
  B_House_contains : Binds K d_House_contains P_House_contains []
  f_House_kind_named : Addr
  d_House_kind_named : FuncData
  F_House_kind_named : Fun K "kind_named" "House.kind_named" s_House_kind_named f_House_kind_named d_House_kind_named
  B_House_kind_named : Binds K d_House_kind_named P_House_kind_named []
  f_House_fields_of : Addr
  d_House_fields_of : FuncData
  F_House_fields_of : Fun K "fields_of" "House.fields_of" s_House_fields_of f_House_fields_of d_House_fields_of
  B_House_fields_of : Binds K d_House_fields_of P_House_fields_of []
  f_House_admitted : Addr
  d_House_admitted : FuncData
  F_House_admitted : Fun K "admitted" "House.admitted" s_House_admitted f_House_admitted d_House_admitted
  B_House_admitted : Binds K d_House_admitted P_House_admitted []
  f_House_leads : Addr
  d_House_leads : FuncData
  F_House_leads : Fun K "leads" "House.leads" s_House_leads f_House_leads d_House_leads
  B_House_leads : Binds K d_House_leads P_House_leads []
  f_House_leads_far : Addr
  d_House_leads_far : FuncData
  F_House_leads_far : Fun K "leads_far" "House.leads_far" s_House_leads_far f_House_leads_far d_House_leads_far
  B_House_leads_far : Binds K d_House_leads_far P_House_leads_far []
  f_pen : Addr
  d_pen : FuncData
  F_pen : Fun K "_law_pen" "_law_pen" s_pen f_pen d_pen
  B_pen : Binds K d_pen P_pen []
  g_pen : mg "_law_pen" = some (.ref f_pen)
  f_take : Addr
  d_take : FuncData
  F_take : Fun K "_law_take" "_law_take" s_take f_take d_take
  B_take : Binds K d_take P_take []
  g_take : mg "_law_take" = some (.ref f_take)
  f_one_of : Addr
  d_one_of : FuncData
  F_one_of : Fun K "_law_one_of" "_law_one_of" s_one_of f_one_of d_one_of
  B_one_of : Binds K d_one_of P_one_of []
  g_one_of : mg "_law_one_of" = some (.ref f_one_of)
  f_word : Addr
  d_word : FuncData
  F_word : Fun K "_law_word" "_law_word" s_word f_word d_word
  B_word : Binds K d_word P_word []
  g_word : mg "_law_word" = some (.ref f_word)
  f_words : Addr
  d_words : FuncData
  F_words : Fun K "_law_words" "_law_words" s_words f_words d_words
  B_words : Binds K d_words P_words []
  g_words : mg "_law_words" = some (.ref f_words)
  f_kind_names : Addr
  d_kind_names : FuncData
  F_kind_names : Fun K "_law_kind_names" "_law_kind_names" s_kind_names f_kind_names d_kind_names
  B_kind_names : Binds K d_kind_names P_kind_names []
  g_kind_names : mg "_law_kind_names" = some (.ref f_kind_names)
  f_row : Addr
  d_row : FuncData
  F_row : Fun K "_law_row" "_law_row" s_row f_row d_row
  B_row : Binds K d_row P_row []
  g_row : mg "_law_row" = some (.ref f_row)
  f_all_fields : Addr
  d_all_fields : FuncData
  F_all_fields : Fun K "_law_all_fields" "_law_all_fields" s_all_fields f_all_fields d_all_fields
  B_all_fields : Binds K d_all_fields P_all_fields []
  g_all_fields : mg "_law_all_fields" = some (.ref f_all_fields)
  f_admitted : Addr
  d_admitted : FuncData
  F_admitted : Fun K "_law_admitted" "_law_admitted" s_admitted f_admitted d_admitted
  B_admitted : Binds K d_admitted P_admitted []
  g_admitted : mg "_law_admitted" = some (.ref f_admitted)
  f_leads : Addr
  d_leads : FuncData
  F_leads : Fun K "_law_leads" "_law_leads" s_leads f_leads d_leads
  B_leads : Binds K d_leads P_leads []
  g_leads : mg "_law_leads" = some (.ref f_leads)
  f_leads_far : Addr
  d_leads_far : FuncData
  F_leads_far : Fun K "_law_leads_far" "_law_leads_far" s_leads_far f_leads_far d_leads_far
  B_leads_far : Binds K d_leads_far P_leads_far []
  g_leads_far : mg "_law_leads_far" = some (.ref f_leads_far)
  f_was : Addr
  d_was : FuncData
  F_was : Fun K "_law_was" "_law_was" s_was f_was d_was
  B_was : Binds K d_was P_was []
  g_was : mg "_law_was" = some (.ref f_was)
  f_field : Addr
  d_field : FuncData
  F_field : Fun K "_law_field" "_law_field" s_field f_field d_field
  B_field : Binds K d_field P_field []
  g_field : mg "_law_field" = some (.ref f_field)
  f_flavour : Addr
  d_flavour : FuncData
  F_flavour : Fun K "_law_flavour" "_law_flavour" s_flavour f_flavour d_flavour
  B_flavour : Binds K d_flavour P_flavour []
  g_flavour : mg "_law_flavour" = some (.ref f_flavour)
  f_new_row : Addr
  d_new_row : FuncData
  F_new_row : Fun K "_law_new_row" "_law_new_row" s_new_row f_new_row d_new_row
  B_new_row : Binds K d_new_row P_new_row []
  g_new_row : mg "_law_new_row" = some (.ref f_new_row)
  f_house_rows : Addr
  d_house_rows : FuncData
  F_house_rows : Fun K "_law_house_rows" "_law_house_rows" s_house_rows f_house_rows d_house_rows
  B_house_rows : Binds K d_house_rows P_house_rows []
  g_house_rows : mg "_law_house_rows" = some (.ref f_house_rows)
  f_root : Addr
  d_root : FuncData
  F_root : Fun K "_law_root" "_law_root" s_root f_root d_root
  B_root : Binds K d_root P_root []
  g_root : mg "_law_root" = some (.ref f_root)
  f_made_field : Addr
  d_made_field : FuncData
  F_made_field : Fun K "_law_made_field" "_law_made_field" s_made_field f_made_field d_made_field
  B_made_field : Binds K d_made_field P_made_field []
  g_made_field : mg "_law_made_field" = some (.ref f_made_field)
  f_made_kind : Addr
  d_made_kind : FuncData
  F_made_kind : Fun K "_law_made_kind" "_law_made_kind" s_made_kind f_made_kind d_made_kind
  B_made_kind : Binds K d_made_kind P_made_kind []
  g_made_kind : mg "_law_made_kind" = some (.ref f_made_kind)
  f_longer : Addr
  d_longer : FuncData
  F_longer : Fun K "_law_longer" "_law_longer" s_longer f_longer d_longer
  B_longer : Binds K d_longer P_longer []
  g_longer : mg "_law_longer" = some (.ref f_longer)
  f_based : Addr
  d_based : FuncData
  F_based : Fun K "_law_based" "_law_based" s_based f_based d_based
  B_based : Binds K d_based P_based []
  g_based : mg "_law_based" = some (.ref f_based)
  f_keyed : Addr
  d_keyed : FuncData
  F_keyed : Fun K "_law_keyed" "_law_keyed" s_keyed f_keyed d_keyed
  B_keyed : Binds K d_keyed P_keyed []
  g_keyed : mg "_law_keyed" = some (.ref f_keyed)
  f_bent : Addr
  d_bent : FuncData
  F_bent : Fun K "_law_bent" "_law_bent" s_bent f_bent d_bent
  B_bent : Binds K d_bent P_bent []
  g_bent : mg "_law_bent" = some (.ref f_bent)
  f_doubled : Addr
  d_doubled : FuncData
  F_doubled : Fun K "_law_doubled" "_law_doubled" s_doubled f_doubled d_doubled
  B_doubled : Binds K d_doubled P_doubled []
  g_doubled : mg "_law_doubled" = some (.ref f_doubled)
  f_mended : Addr
  d_mended : FuncData
  F_mended : Fun K "_law_mended" "_law_mended" s_mended f_mended d_mended
  B_mended : Binds K d_mended P_mended []
  g_mended : mg "_law_mended" = some (.ref f_mended)
  f_kind_right : Addr
  d_kind_right : FuncData
  F_kind_right : Fun K "_law_kind_right" "_law_kind_right" s_kind_right f_kind_right d_kind_right
  B_kind_right : Binds K d_kind_right P_kind_right []
  g_kind_right : mg "_law_kind_right" = some (.ref f_kind_right)
  f_due : Addr
  d_due : FuncData
  F_due : Fun K "_law_due" "_law_due" s_due f_due d_due
  B_due : Binds K d_due P_due []
  g_due : mg "_law_due" = some (.ref f_due)
  f_told : Addr
  d_told : FuncData
  F_told : Fun K "_law_told" "_law_told" s_told f_told d_told
  B_told : Binds K d_told P_told []
  g_told : mg "_law_told" = some (.ref f_told)
  f_counted : Addr
  d_counted : FuncData
  F_counted : Fun K "_law_counted" "_law_counted" s_counted f_counted d_counted
  B_counted : Binds K d_counted P_counted []
  g_counted : mg "_law_counted" = some (.ref f_counted)
  f_no_kinds : Addr
  d_no_kinds : FuncData
  F_no_kinds : Fun K "_law_no_kinds" "_law_no_kinds" s_no_kinds f_no_kinds d_no_kinds
  B_no_kinds : Binds K d_no_kinds P_no_kinds []
  g_no_kinds : mg "_law_no_kinds" = some (.ref f_no_kinds)
  f_law : Addr
  d_law : FuncData
  F_law : Fun K "law" "law" s_law f_law d_law
  B_law : Binds K d_law P_law []
  g_law : mg "law" = some (.ref f_law)
  C_WayError : Addr
  g_WayError : mg "WayError" = some (.ref C_WayError)
  nsp_WayError : Addr
  r_WayError : Way.XRoot K C_WayError nsp_WayError
  C_BadField : Addr
  g_BadField : mg "BadField" = some (.ref C_BadField)
  nsp_BadField : Addr
  X_BadField : Way.XCls K "BadField" C_BadField nsp_BadField C_WayError
  S_BadField : Way.SupFn K P "__init__" "BadField.__init__" s_BadField_init f_BadField_init d_BadField_init C_BadField c_BadField_init cc_BadField_init
  i_BadField : PySem.W.findIn K (.ref C_BadField) "__init__" = some (some (.ref f_BadField_init))
  t_BadField : PySem.W.typeIn K (.ref f_BadField_init) = some (.type "function")
  na_BadField_name : PySem.W.findIn K (.ref C_BadField) "name" = some none
  C_BadKind : Addr
  g_BadKind : mg "BadKind" = some (.ref C_BadKind)
  nsp_BadKind : Addr
  X_BadKind : Way.XCls K "BadKind" C_BadKind nsp_BadKind C_WayError
  S_BadKind : Way.SupFn K P "__init__" "BadKind.__init__" s_BadKind_init f_BadKind_init d_BadKind_init C_BadKind c_BadKind_init cc_BadKind_init
  i_BadKind : PySem.W.findIn K (.ref C_BadKind) "__init__" = some (some (.ref f_BadKind_init))
  t_BadKind : PySem.W.typeIn K (.ref f_BadKind_init) = some (.type "function")
  na_BadKind_name : PySem.W.findIn K (.ref C_BadKind) "name" = some none
  C_BadHouse : Addr
  g_BadHouse : mg "BadHouse" = some (.ref C_BadHouse)
  nsp_BadHouse : Addr
  X_BadHouse : Way.XCls K "BadHouse" C_BadHouse nsp_BadHouse C_WayError
  S_BadHouse : Way.SupFn K P "__init__" "BadHouse.__init__" s_BadHouse_init f_BadHouse_init d_BadHouse_init C_BadHouse c_BadHouse_init cc_BadHouse_init
  i_BadHouse : PySem.W.findIn K (.ref C_BadHouse) "__init__" = some (some (.ref f_BadHouse_init))
  t_BadHouse : PySem.W.typeIn K (.ref f_BadHouse_init) = some (.type "function")
  na_BadHouse_name : PySem.W.findIn K (.ref C_BadHouse) "name" = some none
  C_UnknownKind : Addr
  g_UnknownKind : mg "UnknownKind" = some (.ref C_UnknownKind)
  nsp_UnknownKind : Addr
  X_UnknownKind : Way.XCls K "UnknownKind" C_UnknownKind nsp_UnknownKind C_WayError
  S_UnknownKind : Way.SupFn K P "__init__" "UnknownKind.__init__" s_UnknownKind_init f_UnknownKind_init d_UnknownKind_init C_UnknownKind c_UnknownKind_init cc_UnknownKind_init
  i_UnknownKind : PySem.W.findIn K (.ref C_UnknownKind) "__init__" = some (some (.ref f_UnknownKind_init))
  t_UnknownKind : PySem.W.typeIn K (.ref f_UnknownKind_init) = some (.type "function")
  na_UnknownKind_name : PySem.W.findIn K (.ref C_UnknownKind) "name" = some none
  C_Field : Addr
  g_Field : mg "Field" = some (.ref C_Field)
  cl_Field : Cls K C_Field
  M_Field : Mk K C_Field f_Field_init
  na_Field_name : NoAttr K C_Field "name"
  na_Field_mode : NoAttr K C_Field "mode"
  na_Field_target : NoAttr K C_Field "target"
  na_Field_default : NoAttr K C_Field "default"
  na_Field_was : NoAttr K C_Field "was"
  ic_Field : Way.InsC K C_Field
  C_Kind : Addr
  g_Kind : mg "Kind" = some (.ref C_Kind)
  cl_Kind : Cls K C_Kind
  M_Kind : Mk K C_Kind f_Kind_init
  na_Kind_name : NoAttr K C_Kind "name"
  na_Kind_fields : NoAttr K C_Kind "fields"
  na_Kind_base : NoAttr K C_Kind "base"
  na_Kind_frozen : NoAttr K C_Kind "frozen"
  na_Kind_heirs : NoAttr K C_Kind "heirs"
  na_Kind_key : NoAttr K C_Kind "key"
  na_Kind_registered : NoAttr K C_Kind "registered"
  ic_Kind : Way.InsC K C_Kind
  ns_Kind : Way.NotSq K C_Kind
  nf_Kind : Way.NotIs K C_Field C_Kind
  C_House : Addr
  g_House : mg "House" = some (.ref C_House)
  cl_House : Cls K C_House
  M_House : Mk K C_House f_House_init
  na_House_by_name : NoAttr K C_House "by_name"
  na_House_described : NoAttr K C_House "described"
  na_House_names : NoAttr K C_House "names"
  na_House_root : NoAttr K C_House "root"
  cr_House : ClX.CRead K C_House (.type "type")
  tk_House_KINDS : Tok
  cv_House_KINDS : ClX.CVal K C_House (.type "type") "KINDS" (.int 12) (.int 12 tk_House_KINDS)
  tk_House_FIELDS : Tok
  cv_House_FIELDS : ClX.CVal K C_House (.type "type") "FIELDS" (.int 10) (.int 10 tk_House_FIELDS)
  m_House_leads_wrongly : Meth K C_House "leads_wrongly" f_House_leads_wrongly
  m_House_len : Meth K C_House "__len__" f_House_len
  m_House_contains : Meth K C_House "__contains__" f_House_contains
  m_House_kind_named : Meth K C_House "kind_named" f_House_kind_named
  m_House_fields_of : Meth K C_House "fields_of" f_House_fields_of
  m_House_admitted : Meth K C_House "admitted" f_House_admitted
  m_House_leads : Meth K C_House "leads" f_House_leads
  m_House_leads_far : Meth K C_House "leads_far" f_House_leads_far
  xall : Way.XAll K
  tk_CAPITALS : Tok
  g_CAPITALS : mg "CAPITALS" = some (.str "ABCDEFGHIJKLMNOPQRSTUVWXYZ" tk_CAPITALS)
  tk_LETTERS : Tok
  g_LETTERS : mg "LETTERS" = some (.str "abcdefghijklmnopqrstuvwxyz" tk_LETTERS)
  tk_MOST_DEFAULT : Tok
  g_MOST_DEFAULT : mg "MOST_DEFAULT" = some (.int 1000000000000 tk_MOST_DEFAULT)
  tk_ANY : Tok
  g_ANY : mg "ANY" = some (.str "any" tk_ANY)
  w_MODES : Addr
  g_MODES : mg "MODES" = some (.ref w_MODES)
  ct_MODES : ∀ H, SqT K H w_MODES [.str "mark", .str "link", .str "list"]
  tk_MOST_WAS : Tok
  g_MOST_WAS : mg "MOST_WAS" = some (.int 2 tk_MOST_WAS)
  b_ValueError : mg "ValueError" = none
  b_all : mg "all" = none
  b_range : mg "range" = none
  b_tuple : mg "tuple" = none
  b_isinstance : mg "isinstance" = none
  b_int : mg "int" = none
  b_str : mg "str" = none
  b_len : mg "len" = none
  b_bool : mg "bool" = none
  b_list : mg "list" = none
  b_any : mg "any" = none
  b_TypeError : mg "TypeError" = none
  b_set : mg "set" = none
  b_super : mg "super" = none
  b_repr : mg "repr" = none
theorem hu65 {A : Around} {k : Nat} (hr : Room k A) : A.units + 65 < cLine := by have := hr.un; omega
theorem hu66 {A : Around} {k : Nat} (hr : Room k A) : A.units + 66 < cLine := by have := hr.un; omega
/-! the pen -/
def spPen (K : PySem.W.Frag) : Sp := fun vs H Q _ => ∃ (a : Addr) (ns : List Int), vs = [.ref a] ∧ SqL K H a (ns.map V.int) ∧ ns.length ≤ 63 ∧ ∀ H' p c, Same H H' → H p = none → H c = none → Pen H' p c 0 → Q (.ref p) H'
def spTake : Sp := fun vs H Q _ => ∃ (p c : Addr) (m : Int) (k : Nat), vs = [.ref p, .int m] ∧ Pen H p c k ∧ k ≤ 100000 ∧ 0 < m ∧ m ≤ 10000000000000000 ∧ ∀ H' d, Kp p H H' → Pen H' p c (k + 1) → 0 ≤ d → d < m → Q (.int d) H'
theorem at_int {l : List Int} {i : Nat} {y : V} (e : (l.map V.int)[i]? = some y) : ∃ b, l[i]? = some b ∧ y = V.int b := by
  rw [List.getElem?_map] at e
  cases q : l[i]? with
  | none => rw [q] at e; cases e
  | some b => rw [q] at e; exact ⟨b, rfl, (Option.some.inj e).symm⟩
section
variable {P : Program} {w : World} {K : PySem.W.Frag} {mg : Str → Option Value} {base : Heap}
theorem rc_int1 {H : Hp} {i : Int} : RC (fun xs H Q => (∃ i, xs = [V.int i] ∧ Q (.int i) H) ∨ ∃ b, xs = [V.bl b] ∧ Q (.int (if b then 1 else 0)) H) [.int i] H (.int i) := fun H2 _ _ q => .inl ⟨_, rfl, q H2 (Ex.refl H2)⟩
theorem ok_pen (T : Txt P K mg) : FnOk P w K mg base CX0 1 T.f_pen T.d_pen P_pen (spPen K) := by
  refine T.F_pen.ok sc_pen (fun vs H Q E h => ?_) (fun cdv A outer s H vs Q E hr h => ?_)
  · obtain ⟨a, ns, rfl, _⟩ := h
    rfl
  · obtain ⟨a, ns, rfl, hS, hl, k⟩ := h
    refine ⟨_, (pss_cons (ps_set (i := 1) sc_pen.nd rfl (Or.inl rfl) pe_int)
      (pss_cons (ps_for PassesOwn.never rfl (pi_list (pv 0)) (pg_name (i := 2) sc_pen.nd rfl (Or.inl rfl)) (pss_one (ps_set (i := 1) sc_pen.nd rfl (Or.inl rfl) (pe_op op_mod (pe_callTy call_int1 (by rfl) T.b_int (by decide +kernel) (pa_cons (pe_op op_add (pe_op op_mul (pv 1) pe_int) (pv 2)) pa_nil)) pe_int))))
      (pss_one (ps_ret (pe_disp (pps_cons pe_str (pe_callTy call_list_of (by rfl) T.b_list (by decide +kernel) (pa_cons (pv 0) pa_nil)) (pps_cons pe_str pe_int (pps_cons pe_str pe_int (pps_cons pe_str pe_int (pps_cons pe_str (pv 1) (pps_cons pe_str pe_int pps_nil)))))) (by rfl) (by rfl) (fun z => by cases z) (by decide)))))), ?_⟩
    refine q_asg ev_c fun H1 X1 => ?_
    refine q_forLn (K := K) (ev_var rfl) (ex_l X1 hS) (fun i σ H' => ∃ (t : Int) (v : Option V), σ = [some (.ref a), some (.int t), v] ∧ Ex H H' ∧ 0 ≤ t ∧ t < 2147483587) (fun H2 X2 => ⟨29, none, rfl, X1.trans X2, by decide, by decide⟩) (fun i σ' H' _ ⟨_, _, _, X, _⟩ => ex_l X hS) ?_ ?_
    · rintro i x σ' H' hx ⟨t, v, rfl, X, t0, t1⟩
      obtain ⟨b, _, rfl⟩ := at_int hx
      refine s_asg (ev_op (ev_cb (ea_cons (ev_op (ev_op (ev_var rfl) ev_c (rv_I (.inr (by decide)))) (ev_var rfl) rv_I0) ea_nil) (fun H2 _ _ q => .inl ⟨_, rfl, q H2 (Ex.refl H2)⟩)) ev_c (rv_I (by decide : (0 : Int) < 2147483587))) fun H2 X2 => ?_
      exact ⟨_, _, rfl, X.trans X2, Int.emod_nonneg _ (by decide), Int.emod_lt_of_pos _ (by decide)⟩
    · rintro σ' H' ⟨t, v, rfl, X, t0, t1⟩
      intro p hp
      refine ⟨_, rfl, a, _, rfl, .inl (ex_l (X.trans (Ex.new hp)) hS), fun c hc => ?_⟩
      have ncp : p ≠ c := fun e => by rw [← e, upd_same] at hc; cases hc
      have hc' : H' c = none := by rw [upd_ne ncp.symm] at hc; exact hc
      refine ⟨_, rfl, Eq.trans (upd_ne ncp) upd_same, penK c 0 0 0 t 0, rfl, (by show 6 ≤ 15; decide), ?_⟩
      rw [pk_made]
      refine k _ p c (fun b o e => ?_) (fresh_back X hp) (fresh_back X hc') ⟨ns, 0, 0, 0, t, 0, upd_same, ?_, by decide, by decide, by decide, t0, by omega, by decide, by decide⟩
      · rw [upd_ne (ne_of_none e (fresh_back X hp)), upd_ne (ne_of_none e (fresh_back X hc')), upd_ne (ne_of_none e (fresh_back X hp))]
        exact X _ _ e
      · rw [upd_ne ncp.symm, upd_same]
theorem ok_take (T : Txt P K mg) : FnOk P w K mg base CX0 1 T.f_take T.d_take P_take spTake := by
  refine T.F_take.ok sc_take (fun vs H Q E h => ?_) (fun cdv A outer s H vs Q E hr h => ?_)
  · obtain ⟨p, c, m, k, rfl, _⟩ := h
    rfl
  · obtain ⟨p, c, b, k, rfl, ⟨cs, i, r, d, m, t, hp, hc, i0, d0, d1, m0, m1, t0, t1⟩, hk, b0, b1, kont⟩ := h
    have ncp : c ≠ p := ne_of hc hp (by intro q; cases q)
    refine ⟨_, (pss_cons (ps_asg (pe_op op_add (pe_dget (hu_of hr) (pv 0) pe_str (fun _ _ => rfl)) pe_int) (pg_sub (pv 0) pe_str (set_dict (hu_of hr))))
      (pss_cut (ps_if (PW.pt (pw_and (pt_cmpR op_eq (pe_dget (hu_of hr) (pv 0) pe_str (fun _ _ => rfl)) pe_int (nomark _)) (pw_and1 (pt_cmpR op_lt (pe_dget (hu_of hr) (pv 0) pe_str (fun _ _ => rfl)) (pe_callB call_len_seq (by rfl) T.b_len (by decide +kernel) (pa_cons (pe_dget (hu_of hr) (pv 0) pe_str (fun _ _ => rfl)) pa_nil)) (nomark _))))) (pss_cons (ps_set (i := 2) sc_take.nd rfl (Or.inl rfl) (pe_ix ix_list (pe_dget (hu_of hr) (pv 0) pe_str (fun _ _ => rfl)) (pe_dget (hu_of hr) (pv 0) pe_str (fun _ _ => rfl)) (fun _ _ => rfl)))
      (pss_cons (ps_asg (pe_op op_add (pe_dget (hu_of hr) (pv 0) pe_str (fun _ _ => rfl)) pe_int) (pg_sub (pv 0) pe_str (set_dict (hu_of hr))))
      (pss_cons (ps_if (pt_cmpR op_lt (pv 2) (pe_op op_pow pe_int pe_int) (nomark _)) (pss_cons (ps_set (i := 3) sc_take.nd rfl (Or.inl rfl) (pe_op op_mod (pe_callTy call_int1 (by rfl) T.b_int (by decide +kernel) (pa_cons (pe_op op_add (pe_op op_add (pe_op op_mul (pe_op op_mod (pe_callTy call_int1 (by rfl) T.b_int (by decide +kernel) (pa_cons (pv 2) pa_nil)) pe_int) pe_int) (pe_dget (hu_of hr) (pv 0) pe_str (fun _ _ => rfl))) (pe_op op_mul (pe_dget (hu_of hr) (pv 0) pe_str (fun _ _ => rfl)) pe_int)) pa_nil)) pe_int))
      (pss_cons (ps_asg (pe_op op_mod (pe_callTy call_int1 (by rfl) T.b_int (by decide +kernel) (pa_cons (pe_op op_add (pe_op op_add (pe_op op_mul (pe_dget (hu_of hr) (pv 0) pe_str (fun _ _ => rfl)) pe_int) (pv 3)) pe_int) pa_nil)) pe_int) (pg_sub (pv 0) pe_str (set_dict (hu_of hr))))
      (pss_one (ps_ret (pe_op op_mod (pe_op op_fdiv (pe_op op_mod (pe_callTy call_int1 (by rfl) T.b_int (by decide +kernel) (pa_cons (pe_op op_add (pe_op op_mul (pv 3) (pv 3)) (pe_dget (hu_of hr) (pv 0) pe_str (fun _ _ => rfl))) pa_nil)) pe_int) pe_int) (pv 1)))))) pss_nil)
      (pss_cons (ps_asg (pe_op op_sub (pv 2) (pe_op op_pow pe_int pe_int)) (pg_sub (pv 0) pe_str (set_dict (hu_of hr))))
      (pss_one (ps_asg pe_int (pg_sub (pv 0) pe_str (set_dict (hu_of hr))))))))) pss_nil)
      (pss_cons (ps_if (pt_cmpR op_gt (pe_dget (hu_of hr) (pv 0) pe_str (fun _ _ => rfl)) pe_int (nomark _)) (pss_cons (ps_asg (pe_op op_sub (pe_dget (hu_of hr) (pv 0) pe_str (fun _ _ => rfl)) pe_int) (pg_sub (pv 0) pe_str (set_dict (hu_of hr))))
      (pss_cons (ps_set (i := 4) sc_take.nd rfl (Or.inl rfl) (pe_op op_mod (pe_callTy call_int1 (by rfl) T.b_int (by decide +kernel) (pa_cons (pe_dget (hu_of hr) (pv 0) pe_str (fun _ _ => rfl)) pa_nil)) (pv 1)))
      (pss_cons (ps_asg (pe_op op_fdivW (pe_dget (hu_of hr) (pv 0) pe_str (fun _ _ => rfl)) (pv 1)) (pg_sub (pv 0) pe_str (set_dict (hu_of hr))))
      (pss_one (ps_ret (pv 4)))))) pss_nil)
      (pss_cons (ps_asg (pe_op op_mod (pe_callTy call_int1 (by rfl) T.b_int (by decide +kernel) (pa_cons (pe_op op_add (pe_op op_add (pe_op op_mul (pe_dget (hu_of hr) (pv 0) pe_str (fun _ _ => rfl)) pe_int) (pe_op op_mul (pe_dget (hu_of hr) (pv 0) pe_str (fun _ _ => rfl)) pe_int)) pe_int) pa_nil)) pe_int) (pg_sub (pv 0) pe_str (set_dict (hu_of hr))))
      (pss_one (ps_ret (pe_op op_mod (pe_op op_fdiv (pe_op op_mod (pe_callTy call_int1 (by rfl) T.b_int (by decide +kernel) (pa_cons (pe_op op_add (pe_op op_mul (pe_dget (hu_of hr) (pv 0) pe_str (fun _ _ => rfl)) (pe_dget (hu_of hr) (pv 0) pe_str (fun _ _ => rfl))) (pe_dget (hu_of hr) (pv 0) pe_str (fun _ _ => rfl))) pa_nil)) pe_int) pe_int) (pv 1)))))))), ?_⟩
    refine q_dput hp (v := .int (t + 1)) (ev_op (ev_dgetK (ev_var rfl) ev_c hp pk_turn) ev_c rv_I0) (ev_var rfl) ev_c (by show 6 < 100000; decide) fun H1 X1 => ?_
    rw [pp_turn]
    have hp1 : (upd H1 p (.dK (penK c i r d m (t + 1)))) p = some (.dK (penK c i r d m (t + 1))) := upd_same
    have hc1 : (upd H1 p (.dK (penK c i r d m (t + 1)))) c = some (.lst (cs.map V.int)) := (upd_ne ncp).trans (X1 _ _ hc)
    have K1 : Kp p H (upd H1 p (.dK (penK c i r d m (t + 1)))) := Kp.set (Kp.of X1)
    have ht : 0 ≤ t + 1 ∧ t + 1 ≤ ((k + 1 : Nat) : Int) := by omega
    revert hp1 hc1 K1 ht
    generalize upd H1 p (.dK (penK c i r d m (t + 1))) = H2
    generalize t + 1 = u
    intro hp2 hc2 K2 hu
    have hM : (0 : Int) < 2147483587 := by decide
    have hM2 : (0 : Int) < 2147483647 := by decide
    refine q_cut (M := fun σ' H' => ∃ (i' r' d' : Int) (v2 v3 v4 : Option V), σ' = [some (.ref p), some (.int b), v2, v3, v4] ∧ H' p = some (.dK (penK c i' r' d' m u)) ∧ H' c = some (.lst (cs.map V.int)) ∧ 0 ≤ i' ∧ 0 ≤ d' ∧ d' ≤ 50 ∧ Kp p H H') ?_ ?_
    · refine s_when (et_and (et_test (ev_op (ev_dgetK (ev_var rfl) ev_c hp2 pk_digits) ev_c (rv_eq rfl))) fun _ => et_test (ev_op (ev_dgetK (ev_var rfl) ev_c hp2 pk_at) (ev_cb (ea_cons (ev_dgetK (ev_var rfl) ev_c hp2 pk_cells) ea_nil) (rc_lenL (sq_of hc2))) rv_I0)) (fun q H3 X3 => ?_) (fun q H3 X3 => ?_)
      · have q' := (Bool.and_eq_true_iff.mp q).2
        have hi : i.toNat < cs.length := by
          have := of_decide_eq_true q'
          simp at this
          omega
        have hp3 := X3 _ _ hp2
        have hc3 := X3 _ _ hc2
        refine q_asg (v := .int (cs[i.toNat])) (ev_op (ev_dgetK (ev_var rfl) ev_c hp3 pk_cells) (ev_dgetK (ev_var rfl) ev_c hp3 pk_at) (rv_ixL (sq_of hc3) (at_of (j := i.toNat) (by omega) (by rw [List.getElem?_map, List.getElem?_eq_getElem hi]; rfl)))) fun H4 X4 => ?_
        generalize cs[i.toNat] = cell
        have hp4 := X4 _ _ hp3
        refine q_dput hp4 (v := .int (i + 1)) (ev_op (ev_dgetK (ev_var rfl) ev_c hp4 pk_at) ev_c rv_I0) (ev_var rfl) ev_c (by show 6 < 100000; decide) fun H5 X5 => ?_
        rw [pp_at]
        have hp5 : (upd H5 p (.dK (penK c (i + 1) r d m u))) p = some (.dK (penK c (i + 1) r d m u)) := upd_same
        have hc5 : (upd H5 p (.dK (penK c (i + 1) r d m u))) c = some (.lst (cs.map V.int)) := (upd_ne ncp).trans (X5 _ _ (X4 _ _ hc3))
        have K5 : Kp p H (upd H5 p (.dK (penK c (i + 1) r d m u))) := Kp.set (Kp.trans K2 (Kp.of (X3.trans (X4.trans X5))))
        revert hp5 hc5 K5
        generalize upd H5 p (.dK (penK c (i + 1) r d m u)) = H6
        intro hp6 hc6 K6
        refine q_when (et_test (ev_op (ev_var rfl) (ev_op ev_c ev_c (rv_I ⟨by decide, by decide, by decide⟩)) rv_I0)) (fun q2 H7 X7 => ?_) (fun q2 H7 X7 => ?_)
        · have hp7 := X7 _ _ hp6
          have hp8 := hp7
          have X8 := Ex.refl H7
          have hc8 := X7 _ _ hc6
          refine q_asg (v := .int ((cell % 2147483587 * 69621 + m + u * 40692) % 2147483647)) (ev_op (ev_cb (ea_cons (ev_op (ev_op (ev_op (ev_op (ev_cb (ea_cons (ev_var rfl) ea_nil) (fun H2 _ _ q => .inl ⟨_, rfl, q H2 (Ex.refl H2)⟩)) ev_c (rv_I hM)) ev_c (rv_I (.inr (by decide)))) (ev_dgetK (ev_var rfl) ev_c hp8 pk_mix) rv_I0) (ev_op (ev_dgetK (ev_var rfl) ev_c hp8 pk_turn) ev_c (rv_I (.inr (by decide)))) rv_I0) ea_nil) (fun H2 _ _ q => .inl ⟨_, rfl, q H2 (Ex.refl H2)⟩)) ev_c (rv_I hM2)) fun H9 X9 => ?_
          have f0 : 0 ≤ (cell % 2147483587 * 69621 + m + u * 40692) % 2147483647 := Int.emod_nonneg _ (by decide)
          have f1 : (cell % 2147483587 * 69621 + m + u * 40692) % 2147483647 < 2147483647 := Int.emod_lt_of_pos _ hM2
          revert f0 f1
          generalize (cell % 2147483587 * 69621 + m + u * 40692) % 2147483647 = f
          intro f0 f1
          have hp9 := X9 _ _ hp8
          refine q_dput hp9 (v := .int ((m * 16807 + f + 13) % 2147483587)) (ev_op (ev_cb (ea_cons (ev_op (ev_op (ev_op (ev_dgetK (ev_var rfl) ev_c hp9 pk_mix) ev_c (rv_I (.inr (by decide)))) (ev_var rfl) rv_I0) ev_c rv_I0) ea_nil) (fun H2 _ _ q => .inl ⟨_, rfl, q H2 (Ex.refl H2)⟩)) ev_c (rv_I hM)) (ev_var rfl) ev_c (by show 6 < 100000; decide) fun H10 X10 => ?_
          rw [pp_mix]
          have g0 : 0 ≤ (m * 16807 + f + 13) % 2147483587 := Int.emod_nonneg _ (by decide)
          have g1 : (m * 16807 + f + 13) % 2147483587 < 2147483587 := Int.emod_lt_of_pos _ hM
          revert g0 g1
          generalize (m * 16807 + f + 13) % 2147483587 = g
          intro g0 g1
          have hp11 : (upd H10 p (.dK (penK c (i + 1) r d g u))) p = some (.dK (penK c (i + 1) r d g u)) := upd_same
          have hc11 : (upd H10 p (.dK (penK c (i + 1) r d g u))) c = some (.lst (cs.map V.int)) := (upd_ne ncp).trans (X10 _ _ (X9 _ _ (X8 _ _ (X7 _ _ hc6))))
          have K11 : Kp p H (upd H10 p (.dK (penK c (i + 1) r d g u))) := Kp.set (Kp.trans K6 (Kp.of (X7.trans (X8.trans (X9.trans X10)))))
          refine s_ret (v := .int ((f * f + g) % 2147483563 / 7 % b)) (ev_op (ev_op (ev_op (ev_cb (ea_cons (ev_op (ev_op (ev_var rfl) (ev_var rfl) (rv_I (.inl ⟨by omega, by omega⟩))) (ev_dgetK (ev_var rfl) ev_c hp11 pk_mix) rv_I0) ea_nil) (fun H2 _ _ q => .inl ⟨_, rfl, q H2 (Ex.refl H2)⟩)) ev_c (rv_I (by decide : (0 : Int) < 2147483563))) ev_c (rv_I ⟨by decide, by decide⟩)) (ev_var rfl) (rv_I b0)) fun H12 X12 => ?_
          exact kont _ _ (Kp.trans K11 (Kp.of X12)) ⟨cs, _, _, _, _, _, X12 _ _ hp11, X12 _ _ hc11, by omega, d0, d1, g0, by omega, hu.1, hu.2⟩ (Int.emod_nonneg _ (by omega)) (Int.emod_lt_of_pos _ b0)
        · have hp7 := X7 _ _ hp6
          have hc7 := X7 _ _ hc6
          refine q_dput hp7 (v := .int (cell - 10 ^ 18)) (ev_op (ev_var rfl) (ev_op ev_c ev_c (rv_I ⟨by decide, by decide, by decide⟩)) rv_I0) (ev_var rfl) ev_c (by show 6 < 100000; decide) fun H8 X8 => ?_
          rw [pp_rest]
          have hp8 : (upd H8 p (.dK (penK c (i + 1) (cell - 10 ^ 18) d m u))) p = some (.dK (penK c (i + 1) (cell - 10 ^ 18) d m u)) := upd_same
          refine s_dput hp8 (v := .int 40) ev_c (ev_var rfl) ev_c (by show 6 < 100000; decide) fun H9 X9 => ?_
          rw [pp_digits]
          refine ⟨_, _, _, _, _, _, rfl, upd_same, (upd_ne ncp).trans (X9 _ _ ((upd_ne ncp).trans (X8 _ _ hc7))), by omega, by decide, by decide, ?_⟩
          exact Kp.set (Kp.trans (Kp.set (Kp.trans K6 (Kp.of (X7.trans X8)))) (Kp.of X9))
      · exact ⟨_, _, _, _, _, _, rfl, X3 _ _ hp2, X3 _ _ hc2, i0, d0, d1, Kp.trans K2 (Kp.of X3)⟩
    · rintro σ' H3 ⟨i', r', d', v2, v3, v4, rfl, hp3, hc3, i0', d0', d1', K3⟩
      refine q_when (et_test (ev_op (ev_dgetK (ev_var rfl) ev_c hp3 pk_digits) ev_c rv_I0)) (fun q H4 X4 => ?_) (fun q H4 X4 => ?_)
      · have hd : 0 < d' := of_decide_eq_true q
        have hp4 := X4 _ _ hp3
        refine q_dput hp4 (v := .int (d' - 1)) (ev_op (ev_dgetK (ev_var rfl) ev_c hp4 pk_digits) ev_c rv_I0) (ev_var rfl) ev_c (by show 6 < 100000; decide) fun H5 X5 => ?_
        rw [pp_digits]
        have hp5 : (upd H5 p (.dK (penK c i' r' (d' - 1) m u))) p = some (.dK (penK c i' r' (d' - 1) m u)) := upd_same
        refine q_asg (v := .int (r' % b)) (ev_op (ev_cb (ea_cons (ev_dgetK (ev_var rfl) ev_c hp5 pk_rest) ea_nil) (fun H2 _ _ q => .inl ⟨_, rfl, q H2 (Ex.refl H2)⟩)) (ev_var rfl) (rv_I b0)) fun H6 X6 => ?_
        have hp6 := X6 _ _ hp5
        refine q_dput hp6 (v := .int (r' / b)) (ev_op (ev_dgetK (ev_var rfl) ev_c hp6 pk_rest) (ev_var rfl) (rv_I ⟨b0, Way.log_le b0 b1⟩)) (ev_var rfl) ev_c (by show 6 < 100000; decide) fun H7 X7 => ?_
        rw [pp_rest]
        refine s_ret (ev_var rfl) fun H8 X8 => ?_
        refine kont _ _ (Kp.trans (Kp.set (Kp.trans (Kp.set (Kp.trans K3 (Kp.of (X4.trans X5)))) (Kp.of (X6.trans X7)))) (Kp.of X8)) ⟨cs, _, _, _, _, _, X8 _ _ upd_same, X8 _ _ ((upd_ne ncp).trans (X7 _ _ (X6 _ _ ((upd_ne ncp).trans (X5 _ _ (X4 _ _ hc3)))))), i0', by omega, by omega, m0, m1, hu.1, hu.2⟩ (Int.emod_nonneg _ (by omega)) (Int.emod_lt_of_pos _ b0)
      · have hp4 := X4 _ _ hp3
        refine q_dput hp4 (v := .int ((m * 69621 + u * 16807 + 5) % 2147483647)) (ev_op (ev_cb (ea_cons (ev_op (ev_op (ev_op (ev_dgetK (ev_var rfl) ev_c hp4 pk_mix) ev_c (rv_I (.inr (by decide)))) (ev_op (ev_dgetK (ev_var rfl) ev_c hp4 pk_turn) ev_c (rv_I (.inr (by decide)))) rv_I0) ev_c rv_I0) ea_nil) (fun H2 _ _ q => .inl ⟨_, rfl, q H2 (Ex.refl H2)⟩)) ev_c (rv_I hM2)) (ev_var rfl) ev_c (by show 6 < 100000; decide) fun H5 X5 => ?_
        rw [pp_mix]
        have f0 : 0 ≤ (m * 69621 + u * 16807 + 5) % 2147483647 := Int.emod_nonneg _ (by decide)
        have f1 : (m * 69621 + u * 16807 + 5) % 2147483647 < 2147483647 := Int.emod_lt_of_pos _ hM2
        revert f0 f1
        generalize (m * 69621 + u * 16807 + 5) % 2147483647 = f
        intro f0 f1
        have hp5 : (upd H5 p (.dK (penK c i' r' d' f u))) p = some (.dK (penK c i' r' d' f u)) := upd_same
        refine s_ret (v := .int ((f * f + u) % 2147483579 / 7 % b)) (ev_op (ev_op (ev_op (ev_cb (ea_cons (ev_op (ev_op (ev_dgetK (ev_var rfl) ev_c hp5 pk_mix) (ev_dgetK (ev_var rfl) ev_c hp5 pk_mix) (rv_I (.inl ⟨by omega, by omega⟩))) (ev_dgetK (ev_var rfl) ev_c hp5 pk_turn) rv_I0) ea_nil) (fun H2 _ _ q => .inl ⟨_, rfl, q H2 (Ex.refl H2)⟩)) ev_c (rv_I (by decide : (0 : Int) < 2147483579))) ev_c (rv_I ⟨by decide, by decide⟩)) (ev_var rfl) (rv_I b0)) fun H6 X6 => ?_
        exact kont _ _ (Kp.trans (Kp.set (Kp.trans K3 (Kp.of (X4.trans X5)))) (Kp.of X6)) ⟨cs, _, _, _, _, _, X6 _ _ hp5, X6 _ _ ((upd_ne ncp).trans (X5 _ _ (X4 _ _ hc3))), i0', d0', d1', f0, by omega, hu.1, hu.2⟩ (Int.emod_nonneg _ (by omega)) (Int.emod_lt_of_pos _ b0)
end
end K03

namespace K03
open PySem L2 Way Evl
section
variable {P : Program} {w : World} {K : PySem.W.Frag} {mg : Str → Option Value} {base : Heap}
theorem ok_BadField_init (T : Txt P K mg) : FnOk P w K mg base CX0 1 T.f_BadField_init T.d_BadField_init P_BadField_init (Way.spX1 T.C_BadField "name") :=
  Way.superOk T.S_BadField T.X_BadField.oex sc_BadField_init (fun vs H Q E h => by obtain ⟨a, v, rfl, _⟩ := h; rfl) rfl rfl rfl rfl T.b_super (fun _ => rfl) (fun _ => rfl) (fun _ => ⟨_, rfl⟩) (fun A outer s H vs Q E hr h => by
    obtain ⟨a, v, rfl, ha, k⟩ := h
    exact ⟨a, [v], rfl, ha, _, (pss_one (ps_ost (pv 0) (pv 1))), Way.init1 T.X_BadField.oex T.na_BadField_name ha k⟩)
theorem ok_BadKind_init (T : Txt P K mg) : FnOk P w K mg base CX0 1 T.f_BadKind_init T.d_BadKind_init P_BadKind_init (Way.spX1 T.C_BadKind "name") :=
  Way.superOk T.S_BadKind T.X_BadKind.oex sc_BadKind_init (fun vs H Q E h => by obtain ⟨a, v, rfl, _⟩ := h; rfl) rfl rfl rfl rfl T.b_super (fun _ => rfl) (fun _ => rfl) (fun _ => ⟨_, rfl⟩) (fun A outer s H vs Q E hr h => by
    obtain ⟨a, v, rfl, ha, k⟩ := h
    exact ⟨a, [v], rfl, ha, _, (pss_one (ps_ost (pv 0) (pv 1))), Way.init1 T.X_BadKind.oex T.na_BadKind_name ha k⟩)
theorem ok_BadHouse_init (T : Txt P K mg) : FnOk P w K mg base CX0 1 T.f_BadHouse_init T.d_BadHouse_init P_BadHouse_init (Way.spX1 T.C_BadHouse "name") :=
  Way.superOk T.S_BadHouse T.X_BadHouse.oex sc_BadHouse_init (fun vs H Q E h => by obtain ⟨a, v, rfl, _⟩ := h; rfl) rfl rfl rfl rfl T.b_super (fun _ => rfl) (fun _ => rfl) (fun _ => ⟨_, rfl⟩) (fun A outer s H vs Q E hr h => by
    obtain ⟨a, v, rfl, ha, k⟩ := h
    exact ⟨a, [v], rfl, ha, _, (pss_one (ps_ost (pv 0) (pv 1))), Way.init1 T.X_BadHouse.oex T.na_BadHouse_name ha k⟩)
theorem ok_UnknownKind_init (T : Txt P K mg) : FnOk P w K mg base CX0 1 T.f_UnknownKind_init T.d_UnknownKind_init P_UnknownKind_init (Way.spX1 T.C_UnknownKind "name") :=
  Way.superOk T.S_UnknownKind T.X_UnknownKind.oex sc_UnknownKind_init (fun vs H Q E h => by obtain ⟨a, v, rfl, _⟩ := h; rfl) rfl rfl rfl rfl T.b_super (fun _ => rfl) (fun _ => rfl) (fun _ => ⟨_, rfl⟩) (fun A outer s H vs Q E hr h => by
    obtain ⟨a, v, rfl, ha, k⟩ := h
    exact ⟨a, [v], rfl, ha, _, (pss_one (ps_ost (pv 0) (pv 1))), Way.init1 T.X_UnknownKind.oex T.na_UnknownKind_name ha k⟩)
theorem ok_is_integer (T : Txt P K mg) : FnOk P w K mg base CX0 1 T.f_is_integer T.d_is_integer P_is_integer (spB1 K isInt) := by
  refine T.F_is_integer.ok sc_is_integer (fun vs H Q E h => ?_) (fun cdv A outer s H vs Q E hr h => ?_)
  · obtain ⟨v, d, rfl, _⟩ := h
    rfl
  · obtain ⟨v, d, rfl, pq, kont⟩ := h
    refine ⟨_, (pss_one (ps_ret (pe_and (pe_callB call_isi (by rfl) T.b_isinstance (by decide +kernel) (pa_cons (pv 0) (pa_cons (pe_bltn (v := .ty "int") (by rfl) T.b_int (by decide +kernel) rfl) pa_nil))) (pe_one (pe_not (pe_callB call_isi (by rfl) T.b_isinstance (by decide +kernel) (pa_cons (pv 0) (pa_cons (pe_bltn (v := .ty "bool") (by rfl) T.b_bool (by decide +kernel) rfl) pa_nil)))))))), ?_⟩
    refine s_ret (ev_is (ev_andV (ev_isd (ev_var rfl) pq kd_int) fun _ => ev_notV (ev_isd (ev_var rfl) pq kd_bool)) ?_) fun H1 X1 => kont H1 X1
    cases d <;> rfl
theorem all_lets (x : Str) : (x.cps.toList.map fun c => decide (c ∈ LET)).all id = lets x := by
  rw [List.all_map]; rfl
theorem ok_is_letters (T : Txt P K mg) : FnOk P w K mg base CX0 1 T.f_is_letters T.d_is_letters P_is_letters (spX lets) := by
  refine T.F_is_letters.ok sc_is_letters (fun vs H Q E h => ?_) (fun cdv A outer s H vs Q E hr h => ?_)
  · obtain ⟨x, rfl, _⟩ := h
    rfl
  · obtain ⟨x, rfl, hl, kont⟩ := h
    refine ⟨_, (pss_one (ps_ret (pe_callB (cr_all rfl) (by rfl) T.b_all (by decide +kernel) (pa_cons (pe_lc (own := [("letter", 1)]) (g := gName 1) (by rfl) sc_is_letters.nd (pi_str (pv 0)) (blkOk_by (own := [("letter", 1)]) (N := N_is_letters) (sc := defScope s_is_letters) (by decide +kernel)) (fun _ _ _ _ _ => (pg_name (i := 1) sc_is_letters.nd rfl (Or.inl rfl))) (fun _ _ _ _ _ => pts_nil) (fun _ _ _ _ _ => (pe_cmpR op_in_sign (pv 1) (pe_glob (v := .str "abcdefghijklmnopqrstuvwxyz") (by rfl) T.g_LETTERS ⟨_, rfl⟩) (by rfl)))) pa_nil)))), ?_⟩
    refine s_ret (ev_is (ev_all (bs := x.cps.toList.map fun c => decide (c ∈ LET)) ?_) (by rw [all_lets])) fun H1 X1 => kont H1 X1
    rw [List.map_map]
    exact el_mapX (w := fun c => .bl (decide (c ∈ LET))) (ev_var rfl) (by have : x.cps.size ≤ 100 := hl; omega) (fun _ => rfl) fun c H1 X1 => ev_op (ev_var rfl) ev_c rv_sign
theorem ok_is_field_name (T : Txt P K mg) : FnOk P w K mg base CX0 2 T.f_is_field_name T.d_is_field_name P_is_field_name (spB1 K fFN) := by
  have G_is_letters := ok_is_letters (P := P) (w := w) (base := base) T
  refine T.F_is_field_name.ok sc_is_field_name (fun vs H Q E h => ?_) (fun cdv A outer s H vs Q E hr h => ?_)
  · obtain ⟨v, d, rfl, _⟩ := h
    rfl
  · obtain ⟨v, d, rfl, pq, kont⟩ := h
    refine ⟨_, (pss_one (ps_ret (pe_and (pe_callB call_isi (by rfl) T.b_isinstance (by decide +kernel) (pa_cons (pv 0) (pa_cons (pe_bltn (v := .ty "str") (by rfl) T.b_str (by decide +kernel) rfl) pa_nil))) (pe_and (pe_chain op_le op_le pe_int (pe_callB call_len_str (by rfl) T.b_len (by decide +kernel) (pa_cons (pv 0) pa_nil)) pe_int) (pe_one (pe_call G_is_letters hr (by rfl) T.g_is_letters T.F_is_letters.kp T.B_is_letters .nil pass0 (pa_cons (pv 0) pa_nil))))))), ?_⟩
    cases hs : isStr d with
    | false =>
      refine s_ret (ev_is (ev_andV (a := false) (b := true) (ev_isd (ev_var rfl) pq (by rw [kd_str, hs])) fun q => nomatch q) ?_) fun H1 X1 => kont H1 X1
      cases d <;> simp_all [isStr, fFN]
    | true =>
      obtain ⟨x, rfl, rfl, hl⟩ := pv_isStr pq hs
      refine s_ret (ev_is (ev_andV (ev_isd (ev_var rfl) pq kd_str) fun _ => ev_andV (ev_chain ev_c (ev_lenX (ev_var rfl) (by omega)) ev_c rv_I0 rv_I0) fun _ => ev_x (ev_var rfl) (by omega)) ?_) fun H1 X1 => kont H1 X1
      rfl
theorem ok_is_kind_name (T : Txt P K mg) : FnOk P w K mg base CX0 2 T.f_is_kind_name T.d_is_kind_name P_is_kind_name (spB1 K fKN) := by
  have G_is_letters := ok_is_letters (P := P) (w := w) (base := base) T
  refine T.F_is_kind_name.ok sc_is_kind_name (fun vs H Q E h => ?_) (fun cdv A outer s H vs Q E hr h => ?_)
  · obtain ⟨v, d, rfl, _⟩ := h
    rfl
  · obtain ⟨v, d, rfl, pq, kont⟩ := h
    refine ⟨_, (pss_cons (ps_if (PW.pt (pw_or (pt_not (pt_val (pe_callB call_isi (by rfl) T.b_isinstance (by decide +kernel) (pa_cons (pv 0) (pa_cons (pe_bltn (v := .ty "str") (by rfl) T.b_str (by decide +kernel) rfl) pa_nil))))) (pw_or1 (pt_not (pt_chain op_le op_le pe_int (pe_callB call_len_str (by rfl) T.b_len (by decide +kernel) (pa_cons (pv 0) pa_nil)) pe_int))))) (pss_one (ps_ret pe_bl)) pss_nil)
      (pss_one (ps_ret (pe_and (pe_cmpR op_in_sign (pe_ix ix_str (pv 0) pe_int (fun _ _ => rfl)) (pe_glob (v := .str "ABCDEFGHIJKLMNOPQRSTUVWXYZ") (by rfl) T.g_CAPITALS ⟨_, rfl⟩) (by rfl)) (pe_one (pe_call G_is_letters hr (by rfl) T.g_is_letters T.F_is_letters.kp T.B_is_letters .nil pass0 (pa_cons (pe_slice C8.sl_txt (pv 0) (po_some pe_int) po_none) pa_nil))))))), ?_⟩
    cases hs : isStr d with
    | false =>
      refine q_when (b := true) (et_is (et_or (a := true) (b := true) (et_not (a := false) (et_B (ev_isd (ev_var rfl) pq (by rw [kd_str, hs])))) fun q => nomatch q) rfl) (fun _ H1 X1 => ?_) fun q => nomatch q
      refine s_ret (v := .bl (fKN d)) (ev_is ev_c ?_) fun H2 X2 => kont H2 (X1.trans X2)
      cases d <;> simp_all [isStr, fKN]
    | true =>
      obtain ⟨x, rfl, rfl, hl⟩ := pv_isStr pq hs
      refine q_when (b := !sz8 x) (et_is (et_or (et_not (et_B (ev_isd (ev_var rfl) pq (by rw [kd_str, hs])))) fun _ => et_not (et_test (ev_chain ev_c (ev_lenX (ev_var rfl) (by omega)) ev_c rv_I0 rv_I0))) rfl) (fun q H1 X1 => ?_) (fun q H1 X1 => ?_)
      · refine s_ret (v := .bl (fKN (.str x))) (ev_is ev_c ?_) fun H2 X2 => kont H2 (X1.trans X2)
        have q' : sz8 x = false := by simpa using q
        simp [fKN, knS, q']
      · have q' : sz8 x = true := by simpa using q
        obtain ⟨c, r, e, h8⟩ := sz8_cons q'
        refine s_ret (v := .bl (fKN (.str x))) (ev_is (ev_andV (ev_op (ev_op (ev_var rfl) ev_c (rv_ixS (by omega) (at0 e))) ev_c rv_sign) fun _ => ev_x (ev_is (ev_slX (ev_var rfl) (eo_some ev_c) eo_none (by omega)) (congrArg V.str (slice1 e))) ?_) ?_) fun H2 X2 => kont H2 (X1.trans X2)
        · have h1 : x.cps.toList.length = x.length := by simp [Str.length]
          rw [e, List.length_cons] at h1
          have h2 : (Str.mk r.toArray).length = r.length := by simp [Str.length]
          rw [h2]
          omega
        · simp only [fKN, knS, q', e, capL, Bool.true_and]
          rfl
end
end K03

namespace K03
open PySem L2 Way Evl
def spB3 (K : PySem.W.Frag) (f : PyData → PyData → PyData → Bool) : Sp := fun vs H Q _ => ∃ u v w d e g, vs = [u, v, w] ∧ PV K H u d ∧ PV K H v e ∧ PV K H w g ∧ ∀ H', Ex H H' → Q (.bl (f d e g)) H'
def spEl (K : PySem.W.Frag) : Sp := fun vs H Q _ => ∃ (n : Str) (w : V) (d : PyData), vs = [.str n, w] ∧ PV K H w d ∧ ∀ H', Ex H H' → Q (.bl (fEL n d)) H'
theorem ev_b3 {K : PySem.W.Frag} {H : Hp} {σ : L2.St} {tu tv tw : TE} {u v w : V} {d e g : PyData} {E : XK} {f : PyData → PyData → PyData → Bool} (hu : Ev tu σ H u) (hv : Ev tv σ H v) (hw : Ev tw σ H w) (pu : PV K H u d) (pv : PV K H v e) (pw : PV K H w g) : Ev (tCall (spB3 K f) [] E (tCons tu (tCons tv (tCons tw tNil)))) σ H (.bl (f d e g)) :=
  ev_call (ea_cons hu (ea_cons hv (ea_cons hw ea_nil))) fun H1 x Q q E => ⟨u, v, w, d, e, g, rfl, pu.mono x, pv.mono x, pw.mono x, fun H2 e2 => q H2 e2⟩
theorem ev_el {K : PySem.W.Frag} {H : Hp} {σ : L2.St} {tn tw : TE} {n : Str} {w : V} {d : PyData} {E : XK} (hn : Ev tn σ H (.str n)) (hw : Ev tw σ H w) (pw : PV K H w d) : Ev (tCall (spEl K) [] E (tCons tn (tCons tw tNil))) σ H (.bl (fEL n d)) :=
  ev_call (ea_cons hn (ea_cons hw ea_nil)) fun H1 x Q q E => ⟨n, w, d, rfl, pw.mono x, fun H2 e2 => q H2 e2⟩
/-- one != name, of an entry -/
def neN (n : Str) : PyData → Bool
  | .str x => !decide (x = n)
  | _ => true
def elA (n : Str) (ds : List PyData) : Bool := (ds.map fun d => fFN d && neN n d).all id
/-- the first two are apart -/
def apart : List PyData → Bool
  | .str x :: .str y :: _ => !decide (x = y)
  | _ => true
theorem fFN_str {d : PyData} (h : fFN d = true) : ∃ x, d = .str x := by
  cases d <;> simp [fFN] at h ⊢
theorem elds_eq (n : Str) : ∀ {ds : List PyData}, ds.length ≤ 2 → elds n ds = (elA n ds && apart ds)
  | [], _ => rfl
  | [d], _ => by
    cases d <;> simp [elds, elA, apart, fFN, neN]
  | [d, e], _ => by
    cases d <;> cases e <;> simp [elds, elA, apart, fFN, neN]
  | _ :: _ :: _ :: _, h => by simp at h
theorem elds_3 (n : Str) {ds : List PyData} (h : 2 < ds.length) : elds n ds = false := by
  match ds, h with
  | d :: e :: f :: r, _ => cases d <;> cases e <;> rfl
theorem EV_mono {K : PySem.W.Frag} {H H' : Hp} {d : PyData} {v : V} (h : EV K d v H) (e : Ex H H') : EV K d v H' := ⟨dpE_keep (.of e) h.2 h.1, h.2⟩
theorem ev_last {K : PySem.W.Frag} {H : Hp} {σ : L2.St} {a : Addr} {xs : List V} {ds : List PyData} {tl : TE} (sq : Sq2 K H a xs) (dpa : DpAll K H xs ds) (h2 : ds.length ≤ 2) (hA : ∀ d ∈ ds, ∃ x, d = .str x) (hσ : σ[1]? = some (some (.ref a))) (hl : Ev tl σ H (.int (ds.length : Int))) :
    Ev (tOrV (tOp (rI0 fun i j => .bl (decide (i < j))) tl (tC (.int 2))) (tOp rNe (tOp (rIx K) (tVar 1) (tC (.int 0))) (tOp (rIx K) (tVar 1) (tC (.int 1))))) σ H (.bl (apart ds)) := by
  have ix : ∀ (j : Nat) (v : V), xs[j]? = some v → Ev (tOp (rIx K) (tVar 1) (tC (.int (j : Int)))) σ H v := fun j v hj => ev_op (ev_var hσ) ev_c fun H3 X3 Q' q' => by
    rcases sq with sq | sq
    · exact .inl ⟨a, _, _, _, rfl, rfl, ex_l X3 sq, at_of (j := j) rfl hj, q' H3 (Ex.refl H3)⟩
    · exact .inr (.inl ⟨a, _, _, _, rfl, rfl, ex_t X3 sq, at_of (j := j) rfl hj, q' H3 (Ex.refl H3)⟩)
  cases dpa with
  | nil => exact ev_is (ev_orV (a := true) (b := true) (ev_is (ev_op hl ev_c rv_I0) rfl) fun q => nomatch q) rfl
  | @cons v1 vs d1 ds' a1 r =>
    obtain ⟨z1, rfl⟩ := hA _ (List.mem_cons_self ..)
    cases r with
    | nil => exact ev_is (ev_orV (a := true) (b := true) (ev_is (ev_op hl ev_c rv_I0) rfl) fun q => nomatch q) rfl
    | @cons v2 vs' d2 ds'' a2 r =>
      obtain ⟨z2, rfl⟩ := hA _ (List.mem_cons_of_mem _ (List.mem_cons_self ..))
      cases r with
      | cons _ _ => simp at h2
      | nil =>
        cases a1
        cases a2
        exact ev_is (ev_orV (a := false) (ev_is (ev_op hl ev_c rv_I0) rfl) fun _ => ev_op (ix 0 (.str z1) rfl) (ix 1 (.str z2) rfl) (rv_ne rfl)) (by simp [apart])
section
variable {P : Program} {w : World} {K : PySem.W.Frag} {mg : Str → Option Value} {base : Heap}
theorem ok_is_target (T : Txt P K mg) : FnOk P w K mg base CX0 3 T.f_is_target T.d_is_target P_is_target (spB1 K fTG) := by
  have G_is_kind_name := ok_is_kind_name (P := P) (w := w) (base := base) T
  refine T.F_is_target.ok sc_is_target (fun vs H Q E h => ?_) (fun cdv A outer s H vs Q E hr h => ?_)
  · obtain ⟨v, d, rfl, _⟩ := h
    rfl
  · obtain ⟨v, d, rfl, pq, kont⟩ := h
    refine ⟨_, (pss_one (ps_ret (pe_or (pe_call G_is_kind_name hr (by rfl) T.g_is_kind_name T.F_is_kind_name.kp T.B_is_kind_name .nil pass0 (pa_cons (pv 0) pa_nil)) (pe_one (pe_and (pe_callB call_isi (by rfl) T.b_isinstance (by decide +kernel) (pa_cons (pv 0) (pa_cons (pe_bltn (v := .ty "str") (by rfl) T.b_str (by decide +kernel) rfl) pa_nil))) (pe_one (pe_cmpR op_eq (pv 0) (pe_glob (v := .str "any") (by rfl) T.g_ANY ⟨_, rfl⟩) (nomark _)))))))), ?_⟩
    cases hs : isStr d with
    | false =>
      refine s_ret (ev_is (ev_orV (ev_b1 (ev_var rfl) pq) fun _ => ev_andV (a := false) (b := true) (ev_isd (ev_var rfl) pq (by rw [kd_str, hs])) fun q => nomatch q) ?_) fun H1 X1 => kont H1 X1
      cases d <;> simp_all [isStr, fTG, fAny]
    | true =>
      obtain ⟨x, rfl, rfl, hl⟩ := pv_isStr pq hs
      refine s_ret (ev_is (ev_orV (ev_b1 (ev_var rfl) pq) fun _ => ev_andV (ev_isd (ev_var rfl) pq kd_str) fun _ => ev_op (ev_var rfl) ev_c (rv_eq rfl)) ?_) fun H1 X1 => kont H1 X1
      simp [fTG, fAny, isStr]
theorem inV_modes (x : Str) : inV (.str x) [.str "mark", .str "link", .str "list"] = (decide (x = "mark") || (decide (x = "link") || decide (x = "list"))) := by
  have h : ∀ y : Str, eqV (.str y) (.str x) = decide (x = y) := fun y => by
    by_cases e : x = y
    · subst e; simp [eqV]
    · rw [decide_eq_false e]
      simp [eqV, Ne.symm e]
  unfold inV
  simp only [List.any_cons, List.any_nil, h, Bool.or_false]
theorem ok_fits_mode (T : Txt P K mg) : FnOk P w K mg base CX0 4 T.f_fits_mode T.d_fits_mode P_fits_mode (spB3 K fFM) := by
  have G_is_target := ok_is_target (P := P) (w := w) (base := base) T
  have G_is_integer := ok_is_integer (P := P) (w := w) (base := base) T
  refine T.F_fits_mode.ok sc_fits_mode (fun vs H Q E h => ?_) (fun cdv A outer s H vs Q E hr h => ?_)
  · obtain ⟨u, v, w, d, e, g, rfl, _⟩ := h
    rfl
  · obtain ⟨u, v, w, d, e, g, rfl, pu, pv', pw, kont⟩ := h
    refine ⟨_, (pss_cons (ps_if (PW.pt (pw_or (pt_not (pt_val (pe_callB call_isi (by rfl) T.b_isinstance (by decide +kernel) (pa_cons (pv 0) (pa_cons (pe_bltn (v := .ty "str") (by rfl) T.b_str (by decide +kernel) rfl) pa_nil))))) (pw_or (pt_cmpR op_notIn_seq (pv 0) (pe_glob (v := .ref T.w_MODES) (by rfl) T.g_MODES rfl) (by rfl)) (pw_or1 (pt_not (pt_val (pe_call G_is_integer (hr.mono (by decide)) (by rfl) T.g_is_integer T.F_is_integer.kp T.B_is_integer .nil pass0 (pa_cons (pv 2) pa_nil)))))))) (pss_one (ps_ret pe_bl)) pss_nil)
      (pss_cons (ps_if (pt_cmpR op_eq (pv 0) pe_str (nomark _)) (pss_one (ps_ret (pe_and (pe_cmpR op_isN (pv 1) pe_non (nomark _)) (pe_one (pe_chain op_lt op_lt (pe_un un_neg (pe_glob (v := .int 1000000000000) (by rfl) T.g_MOST_DEFAULT ⟨_, rfl⟩)) (pv 2) (pe_glob (v := .int 1000000000000) (by rfl) T.g_MOST_DEFAULT ⟨_, rfl⟩)))))) pss_nil)
      (pss_one (ps_ret (pe_and (pe_call G_is_target hr (by rfl) T.g_is_target T.F_is_target.kp T.B_is_target .nil pass0 (pa_cons (pv 1) pa_nil)) (pe_one (pe_cmpR op_eq (pv 2) pe_int (nomark _)))))))), ?_⟩
    cases hs : isStr d with
    | false =>
      refine q_when (b := true) (et_is (et_or (a := true) (b := true) (et_not (a := false) (et_B (ev_isd (ev_var rfl) pu (by rw [kd_str, hs])))) fun q => nomatch q) rfl) (fun _ H1 X1 => ?_) fun q => nomatch q
      refine s_ret (v := .bl (fFM d e g)) (ev_is ev_c ?_) fun H2 X2 => kont H2 (X1.trans X2)
      cases d <;> simp_all [isStr, fFM]
    | true =>
      obtain ⟨x, rfl, rfl, hl⟩ := pv_isStr pu hs
      have im := inV_modes x
      refine q_when (et_or (et_not (et_B (ev_isd (ev_var rfl) pu (by rw [kd_str, hs])))) fun _ => et_or (et_test (ev_op (ev_var rfl) ev_c (rv_niT (K := K) (T.ct_MODES H) rfl (Way.flat_strs ["mark", "link", "list"])))) fun _ => et_not (et_B (ev_b1 (ev_var rfl) pw))) (fun q H1 X1 => ?_) (fun q H1 X1 => ?_)
      · refine s_ret (v := .bl (fFM (.str x) e g)) (ev_is ev_c ?_) fun H2 X2 => kont H2 (X1.trans X2)
        rw [im] at q
        cases g <;> simp_all [fFM, isInt]
      · rw [im] at q
        have qi : isInt g = true := by
          cases h : isInt g with
          | true => rfl
          | false => simp [h] at q
        have qm : (decide (x = "mark") || (decide (x = "link") || decide (x = "list"))) = true := by
          cases h : (decide (x = "mark") || (decide (x = "link") || decide (x = "list"))) with
          | true => rfl
          | false => simp [h] at q
        obtain ⟨i, rfl⟩ : ∃ i, g = .int i := by cases g <;> simp [isInt] at qi ⊢
        have ew := pv_int pw
        subst ew
        refine q_when (b := decide (x = "mark")) (et_is (et_test (ev_op (ev_var rfl) ev_c (rv_eq rfl))) (by simp)) (fun q2 H2 X2 => ?_) (fun q2 H2 X2 => ?_)
        · have e2 := of_decide_eq_true q2
          refine s_ret (v := .bl (fFM (.str x) e (.int i))) (ev_is (ev_andV (ev_op (ev_var rfl) ev_c rv_isN) fun _ => ev_chain (ev_un ev_c ru_neg) (ev_var rfl) ev_c rv_I0 rv_I0) ?_) fun H3 X3 => kont H3 ((X1.trans X2).trans X3)
          rw [pv_isNon pv']
          simp only [fFM, if_pos e2]
          rfl
        · have e2 : ¬ x = "mark" := of_decide_eq_false q2
          refine s_ret (v := .bl (fFM (.str x) e (.int i))) (ev_is (ev_andV (ev_b1 (ev_var rfl) (pv'.mono (X1.trans X2))) fun _ => ev_op (ev_var rfl) ev_c (rv_eq rfl)) ?_) fun H3 X3 => kont H3 ((X1.trans X2).trans X3)
          have e3 : x = "link" ∨ x = "list" := by simpa [e2] using qm
          simp only [fFM, if_neg e2, if_pos e3]
          simp
theorem ok_are_elder_names (T : Txt P K mg) : FnOk P w K mg base CX0 3 T.f_are_elder_names T.d_are_elder_names P_are_elder_names (spEl K) := by
  have G_is_field_name := ok_is_field_name (P := P) (w := w) (base := base) T
  refine T.F_are_elder_names.ok sc_are_elder_names (fun vs H Q E h => ?_) (fun cdv A outer s H vs Q E hr h => ?_)
  · obtain ⟨n, v, d, rfl, _⟩ := h
    rfl
  · obtain ⟨n, v, d, rfl, pq, kont⟩ := h
    refine ⟨_, (pss_cons (ps_if (PW.pt (pw_or (pt_not (pt_val (pe_callB call_isiT (by rfl) T.b_isinstance (by decide +kernel) (pa_cons (pv 1) (pa_cons (pe_tup (pa_cons (pe_bltn (v := .ty "list") (by rfl) T.b_list (by decide +kernel) rfl) (pa_cons (pe_bltn (v := .ty "tuple") (by rfl) T.b_tuple (by decide +kernel) rfl) pa_nil))) pa_nil))))) (pw_or1 (pt_cmpR op_gt (pe_callB call_len_seq (by rfl) T.b_len (by decide +kernel) (pa_cons (pv 1) pa_nil)) (pe_glob (v := .int 2) (by rfl) T.g_MOST_WAS ⟨_, rfl⟩) (nomark _))))) (pss_one (ps_ret pe_bl)) pss_nil)
      (pss_cons (ps_if (pt_not (pt_val (pe_callB (cr_all rfl) (by rfl) T.b_all (by decide +kernel) (pa_cons (pe_lc (own := [("one", 2)]) (g := gName 2) (by rfl) sc_are_elder_names.nd (Way.pi_sq (pv 1)) (blkOk_by (own := [("one", 2)]) (N := N_are_elder_names) (sc := defScope s_are_elder_names) (by decide +kernel)) (fun _ _ _ _ _ => (pg_name (i := 2) sc_are_elder_names.nd rfl (Or.inl rfl))) (fun _ _ _ _ _ => pts_nil) (fun _ _ _ _ _ => (pe_and (pe_call G_is_field_name hr (by rfl) T.g_is_field_name T.F_is_field_name.kp T.B_is_field_name .nil pass0 (pa_cons (pv 2) pa_nil)) (pe_one (pe_cmpR op_ne (pv 2) (pv 0) (nomark _)))))) pa_nil)))) (pss_one (ps_ret pe_bl)) pss_nil)
      (pss_one (ps_ret (pe_or (pe_cmpR op_lt (pe_callB call_len_seq (by rfl) T.b_len (by decide +kernel) (pa_cons (pv 1) pa_nil)) pe_int (nomark _)) (pe_one (pe_cmpR op_ne (pe_ix ix_seq (pv 1) pe_int (fun _ _ => rfl)) (pe_ix ix_seq (pv 1) pe_int (fun _ _ => rfl)) (nomark _)))))))), ?_⟩
    cases hs : isSq d with
    | false =>
      refine q_when (b := true) (et_is (et_or (a := true) (b := true) (et_not (a := false) (et_B (ev_is (ev_isSq (ev_var rfl) pq) (by rw [hs])))) fun q => nomatch q) rfl) (fun _ H1 X1 => ?_) fun q => nomatch q
      refine s_ret (v := .bl (fEL n d)) (ev_is ev_c ?_) fun H2 X2 => kont H2 (X1.trans X2)
      simp [fEL, isSq_no hs]
    | true =>
      obtain ⟨ds, hd⟩ := isSq_seq hs
      obtain ⟨a, xs, rfl, sq, dpa, pa, hl⟩ := pv_seq pq hd
      have px := ev_all' dpa pa
      have hlen : xs.length = ds.length := dpAll_len dpa
      have fe : fEL n d = elds n ds := by simp [fEL, hd]
      rw [fe] at kont
      have elen : ∀ H1, Ex H H1 → Ev (tCB (rLenS K) (tCons (tVar 1) tNil)) [some (.str n), some (.ref a), none] H1 (.int (ds.length : Int)) := fun H1 X1 => ev_is (ev_cb (ea_cons (ev_var rfl) ea_nil) fun H2 X2 _ q => ⟨a, xs, rfl, sq.mono (X1.trans X2), q H2 (Ex.refl H2)⟩) (by rw [hlen])
      refine q_when (et_or (et_not (et_B (ev_is (ev_isSq (ev_var rfl) pq) (by rw [hs])))) fun _ => et_test (ev_op (elen H (Ex.refl H)) ev_c rv_I0)) (fun q H1 X1 => ?_) (fun q H1 X1 => ?_)
      · refine s_ret (v := .bl (elds n ds)) (ev_is ev_c ?_) fun H2 X2 => kont H2 (X1.trans X2)
        rw [elds_3 n (by have : (2 : Int) < (ds.length : Int) := by simpa using q
                         omega)]
      · have h2 : ds.length ≤ 2 := by
          have : ¬ (2 : Int) < (ds.length : Int) := by simpa using q
          omega
        rw [elds_eq n h2] at kont
        refine q_when (b := !elA n ds) (et_not (et_B (ev_all ?_))) (fun q1 H2 X2 => ?_) (fun q1 H2 X2 => ?_)
        · rw [List.map_map]
          refine el_mapQ (K := K) (P := EV K) (S := ds) (w := fun d => .bl (fFN d && neN n d)) (ev_var rfl) (sq.mono X1) (Paired.mapP px fun x d h => EV_mono h X1) (by omega) (fun _ => rfl) fun x d H2 X2 hd hx => ?_
          have pe := hx.pv.mono X2
          cases hf : fFN d with
          | false => exact ev_is (ev_andV (a := false) (b := true) (ev_is (ev_b1 (ev_var rfl) pe) (by rw [hf])) fun q => nomatch q) rfl
          | true =>
            obtain ⟨y, rfl⟩ := fFN_str hf
            obtain ⟨rfl, _⟩ := pv_str pe
            exact ev_is (ev_andV (ev_is (ev_b1 (ev_var rfl) pe) (by rw [hf])) fun _ => ev_op (ev_var rfl) (ev_var rfl) (rv_ne rfl)) (by simp [neN])
        · refine s_ret (v := .bl (elA n ds && apart ds)) (ev_is ev_c ?_) fun H3 X3 => kont H3 ((X1.trans X2).trans X3)
          have q1' : elA n ds = false := by simpa using q1
          rw [q1']; rfl
        · have q1' : elA n ds = true := by simpa using q1
          rw [q1', Bool.true_and] at kont
          have X := X1.trans X2
          refine s_ret (v := .bl (apart ds)) (ev_last (sq.mono X) (dpAll_keep (.of X) pa dpa) h2 (fun d hd => ?_) rfl (elen H2 X)) fun H3 X3 => kont H3 (X.trans X3)
          have := List.all_eq_true.mp q1' _ (List.mem_map.mpr ⟨d, hd, rfl⟩)
          simp only [id, Bool.and_eq_true] at this
          exact fFN_str this.1
end
end K03

namespace K03
open PySem L2 Way Evl
/-! fields, as they are made -/
structure Fd where
  name : Str
  mode : Str
  tgt : Option Str
  dfl : Int
  was : List Str
deriving DecidableEq
def oV : Option Str → V
  | none => .non
  | some x => .str x
def oD : Option Str → PyData
  | none => .none
  | some x => .str x
/-- the field f at v -/
def FAt (K : PySem.W.Frag) (C : Addr) (f : Fd) (v : V) (H : Hp) : Prop := ∃ a dx fs wt, v = .ref a ∧ H a = some (.ins C dx fs) ∧ fs.lookup ("name" : Str) = some (.str f.name) ∧ fs.lookup ("mode" : Str) = some (.str f.mode) ∧ fs.lookup ("target" : Str) = some (oV f.tgt) ∧ fs.lookup ("default" : Str) = some (.int f.dfl) ∧ fs.lookup ("was" : Str) = some (.ref wt) ∧ SqT K H wt (f.was.map V.str) ∧ f.was.all PyData.strOk = true
theorem FAt.mono {K : PySem.W.Frag} {C : Addr} {f : Fd} {v : V} {H H' : Hp} (e : Ex H H') (h : FAt K C f v H) : FAt K C f v H' :=
  let ⟨a, dx, fs, wt, h1, h2, h3, h4, h5, h6, h7, h8, h9⟩ := h
  ⟨a, dx, fs, wt, h1, e _ _ h2, h3, h4, h5, h6, h7, ex_t e h8, h9⟩
/-- a change that spares instances and tuples -/
structure KpI (K : PySem.W.Frag) (H H' : Hp) : Prop where
  i : ∀ b C dx fs, H b = some (.ins C dx fs) → H' b = some (.ins C dx fs)
  t : ∀ a xs, SqT K H a xs → SqT K H' a xs
theorem KpI.kp {K : PySem.W.Frag} {H H' : Hp} {s : Addr} (k : Kp s H H') (h1 : ∀ C dx fs, H s ≠ some (.ins C dx fs)) (h2 : ∀ xs, H s ≠ some (.tup xs)) (h3 : ∀ o u, H s ≠ some (.frz o u)) : KpI K H H' := by
  refine ⟨fun b C dx fs h => k _ _ (fun z => by rw [z] at h; exact h1 _ _ _ h) h, fun a xs h => ?_⟩
  rcases h with (h | ⟨ob, h⟩) | h
  · exact .inl (.inl (k _ _ (fun z => by rw [z] at h; exact h2 _ h) h))
  · exact .inl (.inr ⟨ob, k _ _ (fun z => by rw [z] at h; exact h3 _ _ h) h⟩)
  · exact .inr h
theorem kpi_lst {K : PySem.W.Frag} {H H' : Hp} {s : Addr} {xs : List V} (h : H s = some (.lst xs)) (k : Kp s H H') : KpI K H H' := .kp k (fun C dx fs q => by rw [h] at q; cases q) (fun xs q => by rw [h] at q; cases q) fun o u q => by rw [h] at q; cases q
theorem kpi_dK {K : PySem.W.Frag} {H H' : Hp} {s : Addr} {xs : List (Key × V)} (h : H s = some (.dK xs)) (k : Kp s H H') : KpI K H H' := .kp k (fun C dx fs q => by rw [h] at q; cases q) (fun xs q => by rw [h] at q; cases q) fun o u q => by rw [h] at q; cases q
theorem FAt.keep {K : PySem.W.Frag} {C : Addr} {f : Fd} {v : V} {H H' : Hp} (e : KpI K H H') (h : FAt K C f v H) : FAt K C f v H' :=
  let ⟨a, dx, fs, wt, h1, h2, h3, h4, h5, h6, h7, h8, h9⟩ := h
  ⟨a, dx, fs, wt, h1, e.i _ _ _ _ h2, h3, h4, h5, h6, h7, e.t _ _ h8, h9⟩
/-- the data of f -/
structure FdD (f : Fd) (dn dm dt df dw : PyData) : Prop where
  n : dn = .str f.name
  m : dm = .str f.mode
  t : dt = oD f.tgt
  d : df = .int f.dfl
  w : seqOf dw = some (f.was.map .str)
theorem elds_strs {n : Str} : ∀ {ds : List PyData}, elds n ds = true → ∃ ws : List Str, ds = ws.map .str ∧ ws.length ≤ 2
  | [], _ => ⟨[], rfl, by simp⟩
  | [d], h => by
    cases d with
    | str x => exact ⟨[x], rfl, by simp⟩
    | _ => simp [elds] at h
  | [d, e], h => by
    cases d with
    | str x => cases e with
      | str y => exact ⟨[x, y], rfl, by simp⟩
      | _ => simp [elds] at h
    | _ => cases e <;> simp [elds] at h
  | d :: e :: f :: r, h => by rw [elds_3 n (by simp)] at h; cases h
theorem fTG_str {d : PyData} (h : fTG d = true) : ∃ x, d = .str x := by
  cases d <;> simp [fTG, fKN, fAny] at h ⊢
theorem right_fd {dn dm dt df dw : PyData} (h : fFR dn dm dt df dw = true) : ∃ f, FdD f dn dm dt df dw := by
  cases dn with
  | str n =>
    simp only [fFR, Bool.and_eq_true] at h
    obtain ⟨h1, h2, h3⟩ := h
    obtain ⟨m, i, rfl, rfl, t, rfl⟩ : ∃ m i, dm = .str m ∧ df = .int i ∧ ∃ t, dt = oD t := by
      cases dm with
      | str m => cases df with
        | int i =>
          simp only [fFM] at h2
          refine ⟨m, i, rfl, rfl, ?_⟩
          split at h2
          · cases dt with
            | none => exact ⟨none, rfl⟩
            | _ => simp [Way.isNon] at h2
          · split at h2
            · simp only [Bool.and_eq_true] at h2
              obtain ⟨x, rfl⟩ := fTG_str h2.1
              exact ⟨some x, rfl⟩
            · cases h2
        | _ => simp [fFM] at h2
      | _ => simp [fFM] at h2
    unfold fEL at h3
    cases e : seqOf dw with
    | none => rw [e] at h3; cases h3
    | some ds =>
      rw [e] at h3
      obtain ⟨ws, rfl, _⟩ := elds_strs h3
      exact ⟨⟨n, m, t, i, ws⟩, rfl, rfl, rfl, rfl, e⟩
  | _ => simp [fFR] at h
theorem pv_o {K : PySem.W.Frag} {H : Hp} {v : V} {o : Option Str} (p : PV K H v (oD o)) : v = oV o := by
  cases o with
  | none => exact pv_none p
  | some x => exact (pv_str p).1
theorem dp_strs_inv {K : PySem.W.Frag} {H : Hp} : ∀ {ws : List Str} {xs : List V}, DpAll K H xs (ws.map .str) → xs = ws.map V.str
  | [], _, .nil => rfl
  | w :: ws, _, .cons a r => by
    cases a
    rw [dp_strs_inv r]
    rfl
theorem plS_ok {x : Str} (h : plS x = true) : PyData.strOk x = true := by
  simp only [plS, Bool.and_eq_true] at h
  unfold PyData.strOk
  rw [← Array.all_toList]
  refine List.all_eq_true.mpr fun c hc => ?_
  have := List.all_eq_true.mp h.1 c hc
  simp only [plC, Bool.or_eq_true, Bool.and_eq_true, decide_eq_true_eq, beq_iff_eq] at this
  exact decide_eq_true (by omega)
theorem strs_ok : ∀ {ws : List Str}, (ws.map PyData.str).all plE = true → ws.all PyData.strOk = true
  | [], _ => rfl
  | x :: r, h => by
    rw [List.map_cons, List.all_cons, Bool.and_eq_true] at h
    rw [List.all_cons, plS_ok h.1, strs_ok h.2]; rfl
def spFld (K : PySem.W.Frag) (C CB : Addr) : Sp := fun vs H Q E => ∃ x dx n m t df w dn dm dt ddf dw, vs = [.ref x, n, m, t, df, w] ∧ H x = some (.ins C dx []) ∧ PV K H n dn ∧ PV K H m dm ∧ PV K H t dt ∧ PV K H df ddf ∧ PV K H w dw ∧
  (∀ f, FdD f dn dm dt ddf dw → fFR dn dm dt ddf dw = true → ∀ H', Kp x H H' → FAt K C f (.ref x) H' → Q .non H') ∧ (fFR dn dm dt ddf dw = false → ∀ d H', Ex H H' → H' d = some (.xd [("name", n)]) → E (.ref CB) (some d) H')
/-- tuple(x) -/
theorem ex_tupOf {K : PySem.W.Frag} {H : Hp} {σ : L2.St} {te : TE} {a : Addr} {xs : List V} (h : Ev te σ H (.ref a)) (sq : Sq2 K H a xs) : EvX (tCB (fun xs H Q => ∃ p ys, xs = [V.ref p] ∧ ((SqL K H p ys ∧ ∀ l, H l = none → Q (.ref l) (upd H l (.tup ys))) ∨ (SqT K H p ys ∧ Q (.ref p) H))) (tCons te tNil)) σ H (fun y H' => ∃ wt, y = .ref wt ∧ SqT K H' wt xs) := fun H1 e Q q =>
  h H1 e _ fun H2 e2 => ⟨a, xs, rfl, (sq.mono (e.trans e2)).elim (fun s => .inl ⟨s, fun l hl => q _ _ (e2.trans (Ex.new hl)) ⟨l, rfl, SqT.of upd_same⟩⟩) fun s => .inr ⟨s, q _ _ e2 ⟨a, rfl, s⟩⟩⟩
theorem kp_ins {x C dx : Addr} {fs : List (Str × V)} {H H1 H2 : Hp} (k : Kp x H H1) (e : Ex H1 H2) : Kp x H (upd H2 x (.ins C dx fs)) := Kp.set (Kp.trans k (Kp.of e))
section
variable {P : Program} {w : World} {K : PySem.W.Frag} {mg : Str → Option Value} {base : Heap}
theorem ok_Field_init (T : Txt P K mg) : FnOk P w K mg base (L2.CX P w) 5 T.f_Field_init T.d_Field_init P_Field_init (spFld K T.C_Field T.C_BadField) := by
  have G_is_field_name := ok_is_field_name (P := P) (w := w) (base := base) T
  have G_fits_mode := ok_fits_mode (P := P) (w := w) (base := base) T
  have G_are_elder_names := ok_are_elder_names (P := P) (w := w) (base := base) T
  have G_BadField_init := ok_BadField_init (P := P) (w := w) (base := base) T
  refine T.F_Field_init.ok sc_Field_init (fun vs H Q E h => ?_) (fun cdv A outer s H vs Q E hr h => ?_)
  · obtain ⟨x, dx, n, m, t, df, w, dn, dm, dt, ddf, dw, rfl, _⟩ := h
    rfl
  · obtain ⟨x, dx, n, m, t, df, w, dn, dm, dt, ddf, dw, rfl, hx, pn, pm, pt', pdf, pw, kq, ke⟩ := h
    refine ⟨_, (pss_cons (ps_if (PW.pt (pw_or (pt_not (pt_val (pe_call G_is_field_name (hr.mono (by decide)) (by rfl) T.g_is_field_name T.F_is_field_name.kp T.B_is_field_name .nil pass0 (pa_cons (pv 1) pa_nil)))) (pw_or (pt_not (pt_val (pe_call G_fits_mode hr (by rfl) T.g_fits_mode T.F_fits_mode.kp T.B_fits_mode .nil pass0 (pa_cons (pv 2) (pa_cons (pv 3) (pa_cons (pv 4) pa_nil)))))) (pw_or1 (pt_not (pt_val (pe_call G_are_elder_names (hr.mono (by decide)) (by rfl) T.g_are_elder_names T.F_are_elder_names.kp T.B_are_elder_names .nil pass0 (pa_cons (pv 1) (pa_cons (pv 5) pa_nil))))))))) (pss_one (ps_raise rfl (takes_of rfl rfl rfl rfl) (pmk_oex T.X_BadField.oex T.i_BadField T.t_BadField G_BadField_init (hr.mono (by decide)) T.B_BadField_init .nil pass0 (by rfl) T.g_BadField (pa_cons (pv 1) pa_nil)))) pss_nil)
      (pss_cons (ps_fld (pv 0) (pv 1) rfl)
      (pss_cons (ps_fld (pv 0) (pv 2) rfl)
      (pss_cons (ps_fld (pv 0) (pv 3) rfl)
      (pss_cons (ps_fld (pv 0) (pv 4) rfl)
      (pss_one (ps_fld (pv 0) (pe_callTy call_tuple_of (by rfl) T.b_tuple (by decide +kernel) (pa_cons (pv 5) pa_nil)) rfl))))))), ?_⟩
    have bad : ∀ H1, Ex H H1 → fFR dn dm dt ddf dw = false → tMkO T.C_BadField (spX1 T.C_BadField "name") [] (tCons (tVar 1) tNil) [some (.ref x), some n, some m, some t, some df, some w] H1 fun cls d H' => E cls d H' := fun H1 X1 hf =>
      mko1 (ea_cons (ev_var rfl) ea_nil) fun d H2 X2 hd => ke hf d H2 (X1.trans X2) hd
    cases hn : fFN dn with
    | false =>
      refine q_when (b := true) (et_is (et_or (a := true) (b := true) (et_not (a := false) (et_B (ev_is (ev_b1 (ev_var rfl) pn) (by rw [hn])))) fun q => nomatch q) rfl) (fun _ H1 X1 => ?_) fun q => nomatch q
      exact bad H1 X1 (by cases dn <;> simp_all [fFN, fFR])
    | true =>
      obtain ⟨z, rfl⟩ := fFN_str hn
      obtain ⟨rfl, _⟩ := pv_str pn
      have hn' : fnS z = true := hn
      refine q_when (b := !fFR (.str z) dm dt ddf dw) (et_is (et_or (et_not (et_B (ev_b1 (ev_var rfl) pn))) fun _ => et_or (et_not (et_B (ev_b3 (ev_var rfl) (ev_var rfl) (ev_var rfl) pm pt' pdf))) fun _ => et_not (et_B (ev_el (ev_var rfl) (ev_var rfl) pw))) ?_) (fun q H1 X1 => ?_) (fun q H1 X1 => ?_)
      · simp only [fFR, hn, hn', Bool.true_and, Bool.not_true, Bool.false_or, Bool.not_and]
      · exact bad H1 X1 (by simpa using q)
      · have hr' : fFR (.str z) dm dt ddf dw = true := by simpa using q
        obtain ⟨f, hf⟩ := right_fd hr'
        have ef := hf
        obtain ⟨e1, e2, e3, e4, e5⟩ := hf
        subst e2 e3 e4
        obtain ⟨rfl, _⟩ := pv_str pm
        obtain rfl := pv_o pt'
        obtain rfl := pv_int pdf
        cases e1
        obtain ⟨wa, xs, rfl, sq, dpa, ple, _⟩ := pv_seq pw e5
        obtain rfl := dp_strs_inv dpa
        refine q_setF (ev_var rfl) (ev_var rfl) (X1 _ _ hx) T.cl_Field T.na_Field_name (by decide) fun H2 X2 => ?_
        have K2 : Kp x H _ := kp_ins (C := T.C_Field) (dx := dx) (fs := putF "name" (.str f.name) []) (Kp.of X1) X2
        refine q_setF (ev_var rfl) (ev_var rfl) upd_same T.cl_Field T.na_Field_mode (Nat.lt_of_le_of_lt (len_put (n := 0) (Nat.le_refl _)) (by decide)) fun H3 X3 => ?_
        have K3 := kp_ins (C := T.C_Field) (dx := dx) (fs := putF "mode" (.str f.mode) (putF "name" (.str f.name) [])) K2 X3
        refine q_setF (ev_var rfl) (ev_var rfl) upd_same T.cl_Field T.na_Field_target (Nat.lt_of_le_of_lt (len_put (n := 1) (len_put (n := 0) (Nat.le_refl _))) (by decide)) fun H4 X4 => ?_
        have K4 := kp_ins (C := T.C_Field) (dx := dx) (fs := putF "target" (oV f.tgt) (putF "mode" (.str f.mode) (putF "name" (.str f.name) []))) K3 X4
        refine q_setF (ev_var rfl) (ev_var rfl) upd_same T.cl_Field T.na_Field_default (Nat.lt_of_le_of_lt (len_put (n := 2) (len_put (n := 1) (len_put (n := 0) (Nat.le_refl _)))) (by decide)) fun H5 X5 => ?_
        have K5 := kp_ins (C := T.C_Field) (dx := dx) (fs := putF "default" (.int f.dfl) (putF "target" (oV f.tgt) (putF "mode" (.str f.mode) (putF "name" (.str f.name) [])))) K4 X5
        have sq5 : Sq2 K _ wa (f.was.map V.str) := sq.elim (fun s => .inl ((Kps.kp (off_ins hx) K5).l _ _ (by
          have := dpAll_len dpa
          simp only [List.length_map] at this ⊢
          have h3 : f.was.length ≤ 3 := by
            obtain ⟨_, _, _, _, _, _, h3⟩ := pv_seq pw e5
            simpa using h3
          exact h3) s)) fun s => .inr ((Kps.kp (off_ins hx) K5).t _ _ s)
        refine s_setFX (P := fun y H' => ∃ wt, y = .ref wt ∧ SqT K H' wt (f.was.map V.str)) (ex_tupOf (ev_var rfl) sq5) (fun H6 X6 => ev_var rfl) upd_same T.cl_Field T.na_Field_was (Nat.lt_of_le_of_lt (len_put (n := 3) (len_put (n := 2) (len_put (n := 1) (len_put (n := 0) (Nat.le_refl _))))) (by decide)) (fun y H6 H7 e ⟨wt, h1, h2⟩ => ⟨wt, h1, ex_t e h2⟩) fun y H6 X6 ⟨wt, ey, hw⟩ => ?_
        subst ey
        refine kq f ef hr' _ (kp_ins K5 X6) ⟨x, dx, _, wt, rfl, upd_same, ?_, ?_, ?_, ?_, lk_same, ?_, strs_ok ple⟩
        · rw [lk_ne (by decide +kernel), lk_ne (by decide +kernel), lk_ne (by decide +kernel), lk_ne (by decide +kernel), lk_same]
        · rw [lk_ne (by decide +kernel), lk_ne (by decide +kernel), lk_ne (by decide +kernel), lk_same]
        · rw [lk_ne (by decide +kernel), lk_ne (by decide +kernel), lk_same]
        · rw [lk_ne (by decide +kernel), lk_same]
        · have h6 := X6 _ _ (upd_same : (upd H5 x (.ins T.C_Field dx (putF "default" (.int f.dfl) (putF "target" (oV f.tgt) (putF "mode" (.str f.mode) (putF "name" (.str f.name) [])))))) x = _)
          exact (Kps.kp (K := K) (off_ins h6) (Kp.set (Kp.refl _ _))).t _ _ hw
end
end K03

namespace K03
open PySem L2 Way Evl
theorem eqv_strs : ∀ l l' : List Str, PyData.eqv (.tuple (l.map .str)) (.tuple (l'.map .str)) = decide (l = l')
  | [], [] => by simp [PyData.eqv, PyData.eqvAll]
  | [], b :: r => by simp [PyData.eqv, PyData.eqvAll]
  | a :: l, [] => by simp [PyData.eqv, PyData.eqvAll]
  | a :: l, b :: r => by
    have ih := eqv_strs l r
    simp only [PyData.eqv] at ih
    simp only [PyData.eqv, List.map_cons, PyData.eqvAll, ih]
    by_cases h : a = b
    · subst h; simp
    · have : (a == b) = false := beq_eq_false_iff_ne.mpr h
      rw [this]; simp [h]
theorem shp_strs {l : List Str} (h : l.all PyData.strOk = true) : Shp 1 (.tuple (l.map PyData.str)) := shp_tup fun d hd => by
  obtain ⟨b, hb, rfl⟩ := List.mem_map.mp hd
  exact ⟨by simp only [PyData.canLay0]; exact List.all_eq_true.mp h b hb, by simp only [PyData.depth]; omega⟩
theorem dp_was {K : PySem.W.Frag} {H : Hp} {t : Addr} {l : List Str} (h : SqT K H t (l.map V.str)) : ∀ H1, Ex H H1 → Dp K H1 (.ref t) (.tuple (l.map PyData.str)) := fun H1 e => .tup (ex_t e h) (dp_strs l)
theorem scal_o (a b : Option Str) : scal (oV a) (oV b) = true := by cases a <;> cases b <;> rfl
theorem oV_eq (a b : Option Str) : decide (oV a = oV b) = decide (a = b) := by
  cases a with
  | none => cases b with
    | none => rfl
    | some y => simp [oV]
  | some x => cases b with
    | none => simp [oV]
    | some y => simp [oV]
/-- y is nothing of the class C -/
def NoC (K : PySem.W.Frag) (y : V) (H : Hp) : Prop := ∃ T l, TyX K H y (.type T) ∧ fastBuiltinMro T = some l ∧ ∀ a, l.contains (.ref a) = false
theorem noC_mro (d : PyData) : ∃ l, fastBuiltinMro (tyD d) = some l ∧ ∀ a, l.contains (.ref a) = false := by
  cases d
  · exact ⟨[.type "NoneType", .type "object"], by kernel_rfl, fun a => rfl⟩
  · exact ⟨[.type "bool", .type "int", .type "object"], by kernel_rfl, fun a => rfl⟩
  · exact ⟨[.type "int", .type "object"], by kernel_rfl, fun a => rfl⟩
  · exact ⟨[.type "str", .type "object"], by kernel_rfl, fun a => rfl⟩
  · exact ⟨[.type "list", .type "object"], by kernel_rfl, fun a => rfl⟩
  · exact ⟨[.type "tuple", .type "object"], by kernel_rfl, fun a => rfl⟩
  · exact ⟨[.type "dict", .type "object"], by kernel_rfl, fun a => rfl⟩
theorem noC_pv {K : PySem.W.Frag} {y : V} {H : Hp} {d : PyData} (p : PV K H y d) : NoC K y H := let ⟨l, h1, h2⟩ := noC_mro d; ⟨_, l, p.ty, h1, h2⟩
theorem noC_tup {K : PySem.W.Frag} {a : Addr} {H : Hp} {xs : List V} (h : H a = some (.tup xs)) : NoC K (.ref a) H := let ⟨l, h1, h2⟩ := noC_mro (.tuple []); ⟨_, l, .base (.tup h), h1, h2⟩
/-- == of a field -/
def RF (K : PySem.W.Frag) (C : Addr) : Addr → V → Hp → Bool → Prop := fun a y H b => ∃ f, FAt K C f (.ref a) H ∧ ((∃ g, FAt K C g y H ∧ b = decide (f = g)) ∨ ((∀ H', Ex H H' → NoC K y H') ∧ b = false))
theorem fd_eq (f g : Fd) : decide (f = g) = (decide (f.name = g.name) && (decide (f.mode = g.mode) && (decide (f.tgt = g.tgt) && (decide (f.dfl = g.dfl) && decide (f.was = g.was))))) := by
  cases f; cases g
  simp only [Fd.mk.injEq, Bool.decide_and]
section
variable {P : Program} {w : World} {K : PySem.W.Frag} {mg : Str → Option Value} {base : Heap}
end
/-! what stands in the place of fields -/
inductive El
  | fld (f : Fd)
  | dat (d : PyData)
def ElAt (K : PySem.W.Frag) (C : Addr) : El → V → Hp → Prop
  | .fld f, v, H => FAt K C f v H
  | .dat d, v, H => PV K H v d
theorem elAt_mono {K : PySem.W.Frag} {C : Addr} : Mon (ElAt K C) := fun e v H H' x h => by
  cases e with
  | fld f => exact FAt.mono x h
  | dat d => exact PV.mono x h
inductive Fv
  | seq (isL : Bool) (es : List El)
  | dat (d : PyData)
def SqB (K : PySem.W.Frag) (H : Hp) (b : Bool) (a : Addr) (xs : List V) : Prop := match b with
  | true => H a = some (.lst xs)
  | false => SqT K H a xs
theorem SqB.sq {K : PySem.W.Frag} {H : Hp} {b : Bool} {a : Addr} {xs : List V} (h : SqB K H b a xs) : Sq2 K H a xs := by
  cases b with
  | true => exact .inl (SqL.of h)
  | false => exact .inr h
theorem SqB.mono {K : PySem.W.Frag} {H H' : Hp} {b : Bool} {a : Addr} {xs : List V} (e : Ex H H') (h : SqB K H b a xs) : SqB K H' b a xs := by
  cases b with
  | true => exact e _ _ h
  | false => exact ex_t e h
def FvAt (K : PySem.W.Frag) (C : Addr) : Fv → V → Hp → Prop
  | .seq b es, v, H => ∃ a xs, v = .ref a ∧ SqB K H b a xs ∧ Paired (fun x e => ElAt K C e x H) xs es
  | .dat d, v, H => PV K H v d ∧ isSq d = false
theorem fvAt_mono {K : PySem.W.Frag} {C : Addr} : Mon (FvAt K C) := fun e v H H' x h => by
  cases e with
  | seq b es =>
    obtain ⟨a, xs, h1, h2, h3⟩ := h
    exact ⟨a, xs, h1, h2.mono x, Paired.mapP h3 fun _ _ q => elAt_mono _ _ _ _ x q⟩
  | dat d => exact ⟨PV.mono x h.1, h.2⟩
def isFld : El → Bool
  | .fld _ => true
  | .dat _ => false
def nmE : El → Str
  | .fld f => f.name
  | .dat _ => Str.empty
def nodS (ns : List Str) : Bool := decide (((dn ns ns.length : Nat) : Int) = ((ns.length : Nat) : Int))
def fAF : Fv → Nat → Bool
  | .seq _ es, m => decide (es.length ≤ m) && (es.all isFld && nodS (es.map nmE))
  | .dat _, _ => false
def spAF (K : PySem.W.Frag) (C : Addr) : Sp := fun vs H Q _ => ∃ (v : V) (fv : Fv) (m : Nat), vs = [v, .int (m : Int)] ∧ FvAt K C fv v H ∧ m ≤ 100 ∧ ∀ H', Ex H H' → Q (.bl (fAF fv m)) H'
theorem ev_af {K : PySem.W.Frag} {C : Addr} {H : Hp} {σ : L2.St} {tv tm : TE} {v : V} {fv : Fv} {m : Nat} {E : XK} (hv : Ev tv σ H v) (hm : Ev tm σ H (.int (m : Int))) (p : FvAt K C fv v H) (h : m ≤ 100) : Ev (tCall (spAF K C) [] E (tCons tv (tCons tm tNil))) σ H (.bl (fAF fv m)) :=
  ev_call (ea_cons hv (ea_cons hm ea_nil)) fun H1 x Q q E => ⟨v, fv, m, rfl, fvAt_mono _ _ _ _ x p, h, fun H2 e2 => q H2 e2⟩
theorem ev_lenSet {K : PySem.W.Frag} {H : Hp} {σ : L2.St} {ta : TE} {ns : List Str} (h : EvL ta σ H (ns.map V.str)) (hl : ns.length ≤ 4000) : Ev (tLenSetT K ta) σ H (.int ((dn ns ns.length : Nat) : Int)) := fun H1 e Q q =>
  h H1 e _ fun p H2 _ e2 h2 => ⟨p, ns, rfl, SqL.of h2, hl, q H2 e2⟩
section
variable {P : Program} {w : World} {K : PySem.W.Frag} {mg : Str → Option Value} {base : Heap}
theorem ev_isF (T : Txt P K mg) {e : El} {x : V} {H : Hp} {σ : L2.St} {te : TE} (h : Ev te σ H x) (p : ElAt K T.C_Field e x H) : Ev (tCB (rIsi K) (tCons te (tCons (tC (.ref T.C_Field)) tNil))) σ H (.bl (isFld e)) := by
  refine ev_cb (ea_cons h (ea_cons ev_c ea_nil)) fun H1 X1 Q q => ?_
  have p1 := elAt_mono _ _ _ _ X1 p
  cases e with
  | fld f =>
    obtain ⟨a, dx, fs, wt, rfl, h2, _⟩ := p1
    exact ⟨_, _, _, _, true, rfl, .own _, T.ic_Field.ty T.cl_Field h2, kit_self, q H1 (Ex.refl H1)⟩
  | dat d =>
    obtain ⟨l, m1, m2⟩ := noC_mro d
    exact ⟨_, _, _, _, false, rfl, .own _, PV.ty p1, kit_no T.ic_Field T.cl_Field m1 m2, q H1 (Ex.refl H1)⟩
theorem el_nm {es : List El} (h : es.all isFld = true) {e : El} (he : e ∈ es) : ∃ f, e = .fld f := by
  have := List.all_eq_true.mp h e he
  cases e with
  | fld f => exact ⟨f, rfl⟩
  | dat d => cases this
theorem ok_are_fields (T : Txt P K mg) : FnOk P w K mg base CX0 1 T.f_are_fields T.d_are_fields P_are_fields (spAF K T.C_Field) := by

  refine T.F_are_fields.ok sc_are_fields (fun vs H Q E h => ?_) (fun cdv A outer s H vs Q E hr h => ?_)
  · obtain ⟨v, fv, m, rfl, _⟩ := h
    rfl
  · obtain ⟨v, fv, m, rfl, hv, hm, kont⟩ := h
    refine ⟨_, (pss_cons (ps_if (PW.pt (pw_or (pt_not (pt_val (pe_callB call_isiT (by rfl) T.b_isinstance (by decide +kernel) (pa_cons (pv 0) (pa_cons (pe_tup (pa_cons (pe_bltn (v := .ty "list") (by rfl) T.b_list (by decide +kernel) rfl) (pa_cons (pe_bltn (v := .ty "tuple") (by rfl) T.b_tuple (by decide +kernel) rfl) pa_nil))) pa_nil))))) (pw_or1 (pt_cmpR op_gt (pe_callB call_len_seq (by rfl) T.b_len (by decide +kernel) (pa_cons (pv 0) pa_nil)) (pv 1) (nomark _))))) (pss_one (ps_ret pe_bl)) pss_nil)
      (pss_cons (ps_if (pt_not (pt_val (pe_callB (cr_all rfl) (by rfl) T.b_all (by decide +kernel) (pa_cons (pe_lc (own := [("one", 2)]) (g := gName 2) (by rfl) sc_are_fields.nd (Way.pi_sq (pv 0)) (blkOk_by (own := [("one", 2)]) (N := N_are_fields) (sc := defScope s_are_fields) (by decide +kernel)) (fun _ _ _ _ _ => (pg_name (i := 2) sc_are_fields.nd rfl (Or.inl rfl))) (fun _ _ _ _ _ => pts_nil) (fun _ _ _ _ _ => (pe_callB (Way.kk_isi (K := K)) (by rfl) T.b_isinstance (by decide +kernel) (pa_cons (pv 2) (pa_cons (pe_glob (v := .ref T.C_Field) (by rfl) T.g_Field rfl) pa_nil))))) pa_nil)))) (pss_one (ps_ret pe_bl)) pss_nil)
      (pss_one (ps_ret (pe_cmpR op_eq (Way.pe_lenSetT rfl (by rfl) T.b_len (by rfl) T.b_set (pe_lc (own := [("one", 2)]) (g := gName 2) (by rfl) sc_are_fields.nd (Way.pi_sq (pv 0)) (blkOk_by (own := [("one", 2)]) (N := N_are_fields) (sc := defScope s_are_fields) (by decide +kernel)) (fun _ _ _ _ _ => (pg_name (i := 2) sc_are_fields.nd rfl (Or.inl rfl))) (fun _ _ _ _ _ => pts_nil) (fun _ _ _ _ _ => (Way.kk_fld (K := K) (pv 2) rfl)))) (pe_callB call_len_seq (by rfl) T.b_len (by decide +kernel) (pa_cons (pv 0) pa_nil)) (nomark _)))))), ?_⟩
    cases fv with
    | dat d =>
      obtain ⟨pq, hs⟩ := hv
      refine q_when (b := true) (et_is (et_or (a := true) (b := true) (et_not (a := false) (et_B (ev_is (ev_isSq (ev_var rfl) pq) (by rw [hs])))) fun q => nomatch q) rfl) (fun _ H1 X1 => ?_) fun q => nomatch q
      exact s_ret (v := .bl false) ev_c fun H2 X2 => kont H2 (X1.trans X2)
    | seq b es =>
      obtain ⟨a, xs, rfl, hs, hp⟩ := hv
      have hlen : xs.length = es.length := Paired.length hp
      have elen : ∀ H1, Ex H H1 → Ev (tCB (rLenS K) (tCons (tVar 0) tNil)) [some (.ref a), some (.int (m : Int)), none] H1 (.int (es.length : Int)) := fun H1 X1 => ev_is (ev_cb (ea_cons (ev_var rfl) ea_nil) fun H2 X2 _ q => ⟨a, xs, rfl, (hs.mono (X1.trans X2)).sq, q H2 (Ex.refl H2)⟩) (by rw [hlen])
      have ety : ∃ t, (∀ H1, Ex H H1 → TyX K H1 (.ref a) t) ∧ PySem.W.kitAny K t [.type "list", .type "tuple"] = some true := by
        cases b with
        | true => exact ⟨_, fun H1 e => .base (.lst (e _ _ hs)), kd_sq (d := .list [])⟩
        | false => exact ⟨_, fun H1 e => ty_sqT (ex_t e hs), kd_sq (d := .tuple [])⟩
      obtain ⟨ty, t1, t2⟩ := ety
      refine q_when (b := decide ((m : Int) < (es.length : Int))) (et_is (et_or (et_not (et_B (ev_isLT (ev_var rfl) t1 t2))) fun _ => et_test (ev_op (elen H (Ex.refl H)) (ev_var rfl) rv_I0)) (by simp)) (fun q H1 X1 => ?_) (fun q H1 X1 => ?_)
      · refine s_ret (v := .bl (fAF (.seq b es) m)) (ev_is ev_c ?_) fun H2 X2 => kont H2 (X1.trans X2)
        have q' : ¬ es.length ≤ m := by have := of_decide_eq_true q; omega
        simp [fAF, q']
      · have q' : es.length ≤ m := by have := of_decide_eq_false q; omega
        have ekon : fAF (.seq b es) m = (es.all isFld && nodS (es.map nmE)) := by simp [fAF, q']
        rw [ekon] at kont
        refine q_when (b := !es.all isFld) (et_is (et_not (et_B (ev_all (bs := es.map isFld) ?_))) (by rw [List.all_map]; rfl)) (fun q1 H2 X2 => ?_) (fun q1 H2 X2 => ?_)
        · rw [List.map_map]
          exact el_mapQ (K := K) (P := ElAt K T.C_Field) (S := es) (w := fun e => .bl (isFld e)) (ev_var rfl) (hs.mono X1).sq (Paired.mapP hp fun _ _ h => elAt_mono _ _ _ _ X1 h) (by omega) (fun _ => rfl) fun x e H2 X2 he hx => ev_isF T (ev_var rfl) (elAt_mono _ _ _ _ X2 hx)
        · refine s_ret (v := .bl (es.all isFld && nodS (es.map nmE))) (ev_is ev_c ?_) fun H3 X3 => kont H3 ((X1.trans X2).trans X3)
          have : es.all isFld = false := by simpa using q1
          rw [this]; rfl
        · have q1' : es.all isFld = true := by simpa using q1
          rw [q1', Bool.true_and] at kont
          have X := X1.trans X2
          refine s_ret (v := .bl (nodS (es.map nmE))) (ev_is (ev_op (ev_lenSet (ns := es.map nmE) (by
            rw [List.map_map]
            refine el_mapQ (K := K) (P := ElAt K T.C_Field) (S := es) (w := fun e => .str (nmE e)) (ev_var rfl) (hs.mono X).sq (Paired.mapP hp fun _ _ h => elAt_mono _ _ _ _ X h) (by omega) (fun _ => rfl) fun x e H4 X4 he hx => ?_
            obtain ⟨f, rfl⟩ := el_nm q1' he
            obtain ⟨x', dx, fs, wt, rfl, h2, h3, _⟩ := (hx : FAt K T.C_Field f x H2)
            exact ev_fld (ev_var rfl) (X4 _ _ h2) T.cl_Field T.na_Field_name h3) (by rw [List.length_map]; omega)) (elen H2 X) (rv_eq rfl)) ?_) fun H3 X3 => kont H3 (X.trans X3)
          unfold nodS
          rw [List.length_map]
          simp
theorem ok_fits_flags (T : Txt P K mg) : FnOk P w K mg base CX0 1 T.f_fits_flags T.d_fits_flags P_fits_flags (spB3 K fun a b c => isBool a && (isBool b && isBool c)) := by
  refine T.F_fits_flags.ok sc_fits_flags (fun vs H Q E h => ?_) (fun cdv A outer s H vs Q E hr h => ?_)
  · obtain ⟨u, v, w, d, e, g, rfl, _⟩ := h
    rfl
  · obtain ⟨u, v, w, d, e, g, rfl, pu, pv', pw, kont⟩ := h
    refine ⟨_, (pss_one (ps_ret (pe_and (pe_callB call_isi (by rfl) T.b_isinstance (by decide +kernel) (pa_cons (pv 0) (pa_cons (pe_bltn (v := .ty "bool") (by rfl) T.b_bool (by decide +kernel) rfl) pa_nil))) (pe_and (pe_callB call_isi (by rfl) T.b_isinstance (by decide +kernel) (pa_cons (pv 1) (pa_cons (pe_bltn (v := .ty "bool") (by rfl) T.b_bool (by decide +kernel) rfl) pa_nil))) (pe_one (pe_callB call_isi (by rfl) T.b_isinstance (by decide +kernel) (pa_cons (pv 2) (pa_cons (pe_bltn (v := .ty "bool") (by rfl) T.b_bool (by decide +kernel) rfl) pa_nil)))))))), ?_⟩
    exact s_ret (ev_andV (ev_isd (ev_var rfl) pu kd_bool) fun _ => ev_andV (ev_isd (ev_var rfl) pv' kd_bool) fun _ => ev_isd (ev_var rfl) pw kd_bool) fun H1 X1 => kont H1 X1
end
end K03

namespace K03
open PySem L2 Way Evl
/-! kinds -/
structure Kd where
  name : Str
  fields : List Fd
  base : Option Str
  frozen : Bool
  heirs : Bool
  key : Option Str
  registered : Bool
deriving DecidableEq
def KAt (K : PySem.W.Frag) (CF CK : Addr) (kd : Kd) (v : V) (H : Hp) : Prop := ∃ a dx fs ft xs, v = .ref a ∧ H a = some (.ins CK dx fs) ∧ fs.lookup ("name" : Str) = some (.str kd.name) ∧ fs.lookup ("fields" : Str) = some (.ref ft) ∧ fs.lookup ("base" : Str) = some (oV kd.base) ∧ fs.lookup ("frozen" : Str) = some (.bl kd.frozen) ∧ fs.lookup ("heirs" : Str) = some (.bl kd.heirs) ∧ fs.lookup ("key" : Str) = some (oV kd.key) ∧ fs.lookup ("registered" : Str) = some (.bl kd.registered) ∧ SqT K H ft xs ∧ Paired (fun x f => FAt K CF f x H) xs kd.fields
theorem KAt.mono {K : PySem.W.Frag} {CF CK : Addr} {kd : Kd} {v : V} {H H' : Hp} (e : Ex H H') (h : KAt K CF CK kd v H) : KAt K CF CK kd v H' :=
  let ⟨a, dx, fs, ft, xs, h1, h2, h3, h4, h5, h6, h7, h8, h9, h10, h11⟩ := h
  ⟨a, dx, fs, ft, xs, h1, e _ _ h2, h3, h4, h5, h6, h7, h8, h9, ex_t e h10, Paired.mapP h11 fun _ _ q => q.mono e⟩
theorem KAt.keep {K : PySem.W.Frag} {CF CK : Addr} {kd : Kd} {v : V} {H H' : Hp} (e : KpI K H H') (h : KAt K CF CK kd v H) : KAt K CF CK kd v H' :=
  let ⟨a, dx, fs, ft, xs, h1, h2, h3, h4, h5, h6, h7, h8, h9, h10, h11⟩ := h
  ⟨a, dx, fs, ft, xs, h1, e.i _ _ _ _ h2, h3, h4, h5, h6, h7, h8, h9, e.t _ _ h10, Paired.mapP h11 fun _ _ q => q.keep e⟩
theorem FAt.kpx {K : PySem.W.Frag} {C C' x dx : Addr} {f : Fd} {v : V} {H H' : Hp} (hx : H x = some (.ins C' dx [])) (k : Kp x H H') (h : FAt K C f v H) : FAt K C f v H' := by
  obtain ⟨a, dy, fs, wt, h1, h2, h3, h4, h5, h6, h7, h8, h9⟩ := h
  refine ⟨a, dy, fs, wt, h1, k _ _ (fun z => ?_) h2, h3, h4, h5, h6, h7, (Kps.kp (off_ins hx) k).t _ _ h8, h9⟩
  rw [z, hx] at h2
  cases h2
  cases h3
theorem sqb_kp {K : PySem.W.Frag} {C x dx a : Addr} {b : Bool} {xs : List V} {H H' : Hp} (hx : H x = some (.ins C dx [])) (h : SqB K H b a xs) (k : Kp x H H') : Sq2 K H' a xs := by
  cases b with
  | true => exact .inl (SqL.of (k _ _ (fun z => by subst z; have h' : H a = some (.lst xs) := h; rw [hx] at h'; cases h') h))
  | false => exact .inr ((Kps.kp (off_ins hx) k).t _ _ h)
theorem kp_tup {K : PySem.W.Frag} {H : Hp} {a : Addr} {xs : List V} {x C dx : Addr} {fs gs : List (Str × V)} (h : SqT K H a xs) (hx : H x = some (.ins C dx fs)) : SqT K (upd H x (.ins C dx gs)) a xs := (Kps.kp (K := K) (off_ins hx) (Kp.set (Kp.refl _ _))).t _ _ h
def bv : PyData → Bool
  | .bool b => b
  | _ => false
def strOf : PyData → Str
  | .str x => x
  | _ => Str.empty
def kc1 (dn : PyData) (fv : Fv) : Bool := !fKN dn || !fAF fv 10
def kc2 (dn db : PyData) : Bool := !Way.isNon db && (!fKN db || decide (strOf db = strOf dn))
def kc3 (dz dh dk dr : PyData) : Bool := !(isBool dz && (isBool dh && isBool dr)) || (!Way.isNon dk && !fFN dk)
def kc4 (db dz dh dk : PyData) : Bool := (!Way.isNon db && (bv dz || bv dh)) || (bv dh && (bv dz || !Way.isNon dk))
def kc5 (dk dr : PyData) : Bool := bv dr && Way.isNon dk
def fKR (dn : PyData) (fv : Fv) (db dz dh dk dr : PyData) : Bool := !kc1 dn fv && (!kc2 dn db && (!kc3 dz dh dk dr && (!kc4 db dz dh dk && !kc5 dk dr)))
structure KdD (kd : Kd) (dn : PyData) (fv : Fv) (db dz dh dk dr : PyData) : Prop where
  n : dn = .str kd.name
  f : ∃ b, fv = .seq b (kd.fields.map .fld)
  b : db = oD kd.base
  z : dz = .bool kd.frozen
  h : dh = .bool kd.heirs
  k : dk = oD kd.key
  r : dr = .bool kd.registered
theorem flds_of : ∀ {es : List El}, es.all isFld = true → ∃ fs : List Fd, es = fs.map .fld
  | [], _ => ⟨[], rfl⟩
  | e :: es, h => by
    rw [List.all_cons, Bool.and_eq_true] at h
    obtain ⟨fs, rfl⟩ := flds_of h.2
    cases e with
    | fld f => exact ⟨f :: fs, rfl⟩
    | dat d => cases h.1
theorem opt_of {d : PyData} {f : PyData → Bool} (hf : ∀ d, f d = true → ∃ x, d = .str x) (h : (!Way.isNon d && !f d) = false) : ∃ o, d = oD o := by
  cases hn : Way.isNon d with
  | true => exact ⟨none, by cases d <;> simp [Way.isNon] at hn ⊢; rfl⟩
  | false =>
    have : f d = true := by simpa [hn] using h
    obtain ⟨x, rfl⟩ := hf d this
    exact ⟨some x, rfl⟩
theorem fKN_str {d : PyData} (h : fKN d = true) : ∃ x, d = .str x := by
  cases d <;> simp [fKN] at h ⊢
theorem isBool_of {d : PyData} (h : isBool d = true) : ∃ b, d = .bool b := by
  cases d <;> simp [isBool] at h ⊢
theorem right_kd {dn : PyData} {fv : Fv} {db dz dh dk dr : PyData} (h : fKR dn fv db dz dh dk dr = true) : ∃ kd, KdD kd dn fv db dz dh dk dr := by
  simp only [fKR, Bool.and_eq_true, Bool.not_eq_true'] at h
  obtain ⟨h1, h2, h3, h4, h5⟩ := h
  simp only [kc1, Bool.or_eq_false_iff, Bool.not_eq_false'] at h1
  obtain ⟨n, rfl⟩ := fKN_str h1.1
  simp only [kc3, Bool.or_eq_false_iff, Bool.not_eq_false', Bool.and_eq_true] at h3
  obtain ⟨⟨z1, z2, z3⟩, z4⟩ := h3
  obtain ⟨z, rfl⟩ := isBool_of z1
  obtain ⟨hh, rfl⟩ := isBool_of z2
  obtain ⟨r, rfl⟩ := isBool_of z3
  obtain ⟨k, rfl⟩ := opt_of (fun _ => fFN_str) z4
  obtain ⟨b, rfl⟩ : ∃ o, db = oD o := by
    refine opt_of (f := fKN) (fun _ => fKN_str) ?_
    simp only [kc2] at h2
    cases hn : Way.isNon db <;> simp_all
  cases fv with
  | dat d => simp [fAF] at h1
  | seq bb es =>
    have h6 : es.all isFld = true := by
      have := h1.2
      simp only [fAF, Bool.and_eq_true] at this
      exact this.2.1
    obtain ⟨fs, rfl⟩ := flds_of h6
    exact ⟨⟨n, fs, b, z, hh, k, r⟩, rfl, ⟨bb, rfl⟩, rfl, rfl, rfl, rfl, rfl⟩
def spKnd (K : PySem.W.Frag) (CF CK CB : Addr) : Sp := fun vs H Q E => ∃ x dx n f b z h k r dn fv db dz dh dk dr, vs = [.ref x, n, f, b, z, h, k, r] ∧ H x = some (.ins CK dx []) ∧ PV K H n dn ∧ FvAt K CF fv f H ∧ PV K H b db ∧ PV K H z dz ∧ PV K H h dh ∧ PV K H k dk ∧ PV K H r dr ∧
  (∀ kd, KdD kd dn fv db dz dh dk dr → fKR dn fv db dz dh dk dr = true → ∀ H', Kp x H H' → KAt K CF CK kd (.ref x) H' → Q .non H') ∧ (fKR dn fv db dz dh dk dr = false → ∀ d H', Ex H H' → H' d = some (.xd [("name", n)]) → E (.ref CB) (some d) H')
theorem pr_fld {K : PySem.W.Frag} {C : Addr} {H : Hp} : ∀ {xs : List V} {fs : List Fd}, Paired (fun x e => ElAt K C e x H) xs (fs.map .fld) → Paired (fun x f => FAt K C f x H) xs fs
  | [], [], .nil => .nil
  | _ :: _, _ :: _, .cons a r => .cons a (pr_fld r)
section
variable {P : Program} {w : World} {K : PySem.W.Frag} {mg : Str → Option Value} {base : Heap}
theorem ev_cval' {H : Hp} {σ : L2.St} {C : Addr} {f : Str} {v : V} {u : Value} {te : TE} (h : Ev te σ H (.ref C)) (r : ClX.CRead K C (.type "type")) (c : ClX.CVal K C (.type "type") f v u) : Ev (ClX.tCVal K te f) σ H v := fun H1 e Q q => h H1 e _ fun H2 e2 => ⟨C, _, v, u, rfl, r, c, q H2 e2⟩
theorem ok_Kind_init (T : Txt P K mg) : FnOk P w K mg base (L2.CX P w) 3 T.f_Kind_init T.d_Kind_init P_Kind_init (spKnd K T.C_Field T.C_Kind T.C_BadKind) := by
  have G_is_kind_name := ok_is_kind_name (P := P) (w := w) (base := base) T
  have G_are_fields := ok_are_fields (P := P) (w := w) (base := base) T
  have G_fits_flags := ok_fits_flags (P := P) (w := w) (base := base) T
  have G_is_field_name := ok_is_field_name (P := P) (w := w) (base := base) T
  have G_BadKind_init := ok_BadKind_init (P := P) (w := w) (base := base) T
  refine T.F_Kind_init.ok sc_Kind_init (fun vs H Q E h => ?_) (fun cdv A outer s H vs Q E hr h => ?_)
  · obtain ⟨x, dx, n, f, b, z, h, k, r, dn, fv, db, dz, dh, dk, dr, rfl, _⟩ := h
    rfl
  · obtain ⟨x, dx, n, f, b, z, h, k, r, dn, fv, db, dz, dh, dk, dr, rfl, hx, pn, pf, pb, pz, ph, pk', pr, kq, ke⟩ := h
    refine ⟨_, (pss_cons (ps_if (PW.pt (pw_or (pt_not (pt_val (pe_call G_is_kind_name hr (by rfl) T.g_is_kind_name T.F_is_kind_name.kp T.B_is_kind_name .nil pass0 (pa_cons (pv 1) pa_nil)))) (pw_or1 (pt_not (pt_val (pe_call G_are_fields (hr.mono (by decide)) (by rfl) T.g_are_fields T.F_are_fields.kp T.B_are_fields .nil pass0 (pa_cons (pv 2) (pa_cons (ClX.pe_cval (pe_glob (v := .ref T.C_House) (by rfl) T.g_House rfl)) pa_nil)))))))) (pss_one (ps_raise rfl (takes_of rfl rfl rfl rfl) (pmk_oex T.X_BadKind.oex T.i_BadKind T.t_BadKind G_BadKind_init (hr.mono (by decide)) T.B_BadKind_init .nil pass0 (by rfl) T.g_BadKind (pa_cons (pv 1) pa_nil)))) pss_nil)
      (pss_cons (ps_if (PW.pt (pw_and (pt_cmpR op_notN (pv 3) pe_non (nomark _)) (pw_and1 (PW.pt (pw_or (pt_not (pt_val (pe_call G_is_kind_name hr (by rfl) T.g_is_kind_name T.F_is_kind_name.kp T.B_is_kind_name .nil pass0 (pa_cons (pv 3) pa_nil)))) (pw_or1 (pt_cmpR op_eq (pv 3) (pv 1) (nomark _)))))))) (pss_one (ps_raise rfl (takes_of rfl rfl rfl rfl) (pmk_oex T.X_BadKind.oex T.i_BadKind T.t_BadKind G_BadKind_init (hr.mono (by decide)) T.B_BadKind_init .nil pass0 (by rfl) T.g_BadKind (pa_cons (pv 1) pa_nil)))) pss_nil)
      (pss_cons (ps_if (PW.pt (pw_or (pt_not (pt_val (pe_call G_fits_flags (hr.mono (by decide)) (by rfl) T.g_fits_flags T.F_fits_flags.kp T.B_fits_flags .nil pass0 (pa_cons (pv 4) (pa_cons (pv 5) (pa_cons (pv 7) pa_nil)))))) (pw_or1 (PW.pt (pw_and (pt_cmpR op_notN (pv 6) pe_non (nomark _)) (pw_and1 (pt_not (pt_val (pe_call G_is_field_name hr (by rfl) T.g_is_field_name T.F_is_field_name.kp T.B_is_field_name .nil pass0 (pa_cons (pv 6) pa_nil)))))))))) (pss_one (ps_raise rfl (takes_of rfl rfl rfl rfl) (pmk_oex T.X_BadKind.oex T.i_BadKind T.t_BadKind G_BadKind_init (hr.mono (by decide)) T.B_BadKind_init .nil pass0 (by rfl) T.g_BadKind (pa_cons (pv 1) pa_nil)))) pss_nil)
      (pss_cons (ps_if (PW.pt (pw_or (PW.pt (pw_and (pt_cmpR op_notN (pv 3) pe_non (nomark _)) (pw_and1 (PW.pt (pw_or (pt_val (pv 4)) (pw_or1 (pt_val (pv 5)))))))) (pw_or1 (PW.pt (pw_and (pt_val (pv 5)) (pw_and1 (PW.pt (pw_or (pt_val (pv 4)) (pw_or1 (pt_cmpR op_notN (pv 6) pe_non (nomark _))))))))))) (pss_one (ps_raise rfl (takes_of rfl rfl rfl rfl) (pmk_oex T.X_BadKind.oex T.i_BadKind T.t_BadKind G_BadKind_init (hr.mono (by decide)) T.B_BadKind_init .nil pass0 (by rfl) T.g_BadKind (pa_cons (pv 1) pa_nil)))) pss_nil)
      (pss_cons (ps_if (PW.pt (pw_and (pt_val (pv 7)) (pw_and1 (pt_cmpR op_isN (pv 6) pe_non (nomark _))))) (pss_one (ps_raise rfl (takes_of rfl rfl rfl rfl) (pmk_oex T.X_BadKind.oex T.i_BadKind T.t_BadKind G_BadKind_init (hr.mono (by decide)) T.B_BadKind_init .nil pass0 (by rfl) T.g_BadKind (pa_cons (pv 1) pa_nil)))) pss_nil)
      (pss_cons (ps_fld (pv 0) (pv 1) rfl)
      (pss_cons (ps_fld (pv 0) (pe_callTy call_tuple_of (by rfl) T.b_tuple (by decide +kernel) (pa_cons (pv 2) pa_nil)) rfl)
      (pss_cons (ps_fld (pv 0) (pv 3) rfl)
      (pss_cons (ps_fld (pv 0) (pv 4) rfl)
      (pss_cons (ps_fld (pv 0) (pv 5) rfl)
      (pss_cons (ps_fld (pv 0) (pv 6) rfl)
      (pss_one (ps_fld (pv 0) (pv 7) rfl))))))))))))), ?_⟩
    have bad : ∀ H1, Ex H H1 → fKR dn fv db dz dh dk dr = false → tMkO T.C_BadKind (spX1 T.C_BadKind "name") [] (tCons (tVar 1) tNil) [some (.ref x), some n, some f, some b, some z, some h, some k, some r] H1 fun cls d H' => E cls d H' := fun H1 X1 hf =>
      mko1 (ea_cons (ev_var rfl) ea_nil) fun d H2 X2 hd => ke hf d H2 (X1.trans X2) hd
    refine q_when (b := kc1 dn fv) (et_or (et_not (et_B (ev_b1 (ev_var rfl) pn))) fun _ => et_not (et_B (ev_af (ev_var rfl) (ev_cval' ev_c T.cr_House T.cv_House_FIELDS) pf (by decide)))) (fun q H1 X1 => ?_) (fun q1 H1 X1 => ?_)
    · exact bad H1 X1 (by simp [fKR, q])
    obtain ⟨nm, rfl⟩ : ∃ y, dn = .str y := by
      simp only [kc1, Bool.or_eq_false_iff, Bool.not_eq_false'] at q1
      exact fKN_str q1.1
    obtain ⟨rfl, _⟩ := pv_str pn
    refine q_when (b := kc2 (.str nm) db) (et_and (et_test (ev_is (ev_op (ev_var rfl) ev_c rv_notN) (by rw [pv_isNon pb]))) fun _ => et_or (et_not (et_B (ev_b1 (ev_var rfl) (pb.mono X1)))) fun qk => ?_) (fun q H2 X2 => ?_) (fun q2 H2 X2 => ?_)
    · have qk' : fKN db = true := by simpa using qk
      obtain ⟨y, rfl⟩ := fKN_str qk'
      obtain ⟨rfl, _⟩ := pv_str pb
      exact et_is (et_test (ev_op (ev_var rfl) (ev_var rfl) (rv_eq rfl))) (decide_eq_decide.mpr ⟨fun h => V.str.inj h, fun h => congrArg V.str h⟩)
    · exact bad H2 (X1.trans X2) (by simp [fKR, q])
    have X12 := X1.trans X2
    refine q_when (b := kc3 dz dh dk dr) (et_or (et_not (et_B (ev_b3 (ev_var rfl) (ev_var rfl) (ev_var rfl) (pz.mono X12) (ph.mono X12) (pr.mono X12)))) fun _ => et_and (et_test (ev_is (ev_op (ev_var rfl) ev_c rv_notN) (by rw [pv_isNon pk']))) fun _ => et_not (et_B (ev_b1 (ev_var rfl) (pk'.mono X12)))) (fun q H3 X3 => ?_) (fun q3 H3 X3 => ?_)
    · exact bad H3 (X12.trans X3) (by simp [fKR, q])
    have X13 := X12.trans X3
    have q3' := q3
    simp only [kc3, Bool.or_eq_false_iff, Bool.not_eq_false', Bool.and_eq_true] at q3'
    obtain ⟨⟨z1, z2, z3⟩, z4⟩ := q3'
    obtain ⟨bz, rfl⟩ := isBool_of z1
    obtain ⟨bh, rfl⟩ := isBool_of z2
    obtain ⟨br, rfl⟩ := isBool_of z3
    obtain rfl := pv_bool pz
    obtain rfl := pv_bool ph
    obtain rfl := pv_bool pr
    refine q_when (b := kc4 db (.bool bz) (.bool bh) dk) (et_or (et_and (et_test (ev_is (ev_op (ev_var rfl) ev_c rv_notN) (by rw [pv_isNon pb]))) fun _ => et_or (et_B (ev_var rfl)) fun _ => et_B (ev_var rfl)) fun _ => et_and (et_B (ev_var rfl)) fun _ => et_or (et_B (ev_var rfl)) fun _ => et_test (ev_is (ev_op (ev_var rfl) ev_c rv_notN) (by rw [pv_isNon pk']))) (fun q H4 X4 => ?_) (fun q4 H4 X4 => ?_)
    · exact bad H4 (X13.trans X4) (by simp [fKR, q])
    have X14 := X13.trans X4
    refine q_when (b := kc5 dk (.bool br)) (et_and (et_B (ev_var rfl)) fun _ => et_test (ev_is (ev_op (ev_var rfl) ev_c rv_isN) (by rw [pv_isNon pk']))) (fun q H5 X5 => ?_) (fun q5 H5 X5 => ?_)
    · exact bad H5 (X14.trans X5) (by simp [fKR, q])
    · have X1' := X1
      have X1 : Ex H H5 := X14.trans X5
      have hr' : fKR (.str nm) fv db (.bool bz) (.bool bh) dk (.bool br) = true := by simp [fKR, q1, q2, q3, q4, q5]
      obtain ⟨kd, hk⟩ := right_kd hr'
      have ef := hk
      obtain ⟨e1, ⟨bb, e2⟩, e3, e4, e5, e6, e7⟩ := hk
      subst e2 e3 e6
      cases e1
      cases e4
      cases e5
      cases e7
      obtain rfl := pv_o pb
      obtain rfl := pv_o pk'
      obtain ⟨fa, xs, rfl, hs, hp⟩ := pf
      have hp2 := pr_fld hp
      have hx1 := X1 _ _ hx
      refine q_setF (ev_var rfl) (ev_var rfl) hx1 T.cl_Kind T.na_Kind_name (by decide) fun H2 X2 => ?_
      have K2 := kp_ins (x := x) (C := T.C_Kind) (dx := dx) (fs := putF "name" (.str kd.name) []) (Kp.of X1) X2
      have sq2 := sqb_kp hx hs K2
      refine q_setFX (P := fun y H' => ∃ wt, y = .ref wt ∧ SqT K H' wt xs) (ex_tupOf (ev_var rfl) sq2) (fun H6 X6 => ev_var rfl) upd_same T.cl_Kind T.na_Kind_fields (Nat.lt_of_le_of_lt (len_put (n := 0) (Nat.le_refl _)) (by decide)) (fun y H6 H7 e ⟨wt, h1, h2⟩ => ⟨wt, h1, ex_t e h2⟩) fun y H3 X3 ⟨ft, ey, hft⟩ => ?_
      subst ey
      have K3 := kp_ins (C := T.C_Kind) (dx := dx) (fs := putF "fields" (.ref ft) (putF "name" (.str kd.name) [])) K2 X3
      have t3 := kp_tup (gs := putF "fields" (.ref ft) (putF "name" (.str kd.name) [])) hft (X3 _ _ upd_same)
      refine q_setF (ev_var rfl) (ev_var rfl) upd_same T.cl_Kind T.na_Kind_base (Nat.lt_of_le_of_lt (len_put (n := 1) (len_put (n := 0) (Nat.le_refl _))) (by decide)) fun H4 X4 => ?_
      have K4 := kp_ins (C := T.C_Kind) (dx := dx) (fs := putF "base" (oV kd.base) (putF "fields" (.ref ft) (putF "name" (.str kd.name) []))) K3 X4
      have t4 := kp_tup (gs := putF "base" (oV kd.base) (putF "fields" (.ref ft) (putF "name" (.str kd.name) []))) (ex_t X4 t3) (X4 _ _ upd_same)
      refine q_setF (ev_var rfl) (ev_var rfl) upd_same T.cl_Kind T.na_Kind_frozen (Nat.lt_of_le_of_lt (len_put (n := 2) (len_put (n := 1) (len_put (n := 0) (Nat.le_refl _)))) (by decide)) fun H5 X5 => ?_
      have K5 := kp_ins (C := T.C_Kind) (dx := dx) (fs := putF "frozen" (.bl kd.frozen) (putF "base" (oV kd.base) (putF "fields" (.ref ft) (putF "name" (.str kd.name) [])))) K4 X5
      have t5 := kp_tup (gs := putF "frozen" (.bl kd.frozen) (putF "base" (oV kd.base) (putF "fields" (.ref ft) (putF "name" (.str kd.name) [])))) (ex_t X5 t4) (X5 _ _ upd_same)
      refine q_setF (ev_var rfl) (ev_var rfl) upd_same T.cl_Kind T.na_Kind_heirs (Nat.lt_of_le_of_lt (len_put (n := 3) (len_put (n := 2) (len_put (n := 1) (len_put (n := 0) (Nat.le_refl _))))) (by decide)) fun H6 X6 => ?_
      have K6 := kp_ins (C := T.C_Kind) (dx := dx) (fs := putF "heirs" (.bl kd.heirs) (putF "frozen" (.bl kd.frozen) (putF "base" (oV kd.base) (putF "fields" (.ref ft) (putF "name" (.str kd.name) []))))) K5 X6
      have t6 := kp_tup (gs := putF "heirs" (.bl kd.heirs) (putF "frozen" (.bl kd.frozen) (putF "base" (oV kd.base) (putF "fields" (.ref ft) (putF "name" (.str kd.name) []))))) (ex_t X6 t5) (X6 _ _ upd_same)
      refine q_setF (ev_var rfl) (ev_var rfl) upd_same T.cl_Kind T.na_Kind_key (Nat.lt_of_le_of_lt (len_put (n := 4) (len_put (n := 3) (len_put (n := 2) (len_put (n := 1) (len_put (n := 0) (Nat.le_refl _)))))) (by decide)) fun H7 X7 => ?_
      have K7 := kp_ins (C := T.C_Kind) (dx := dx) (fs := putF "key" (oV kd.key) (putF "heirs" (.bl kd.heirs) (putF "frozen" (.bl kd.frozen) (putF "base" (oV kd.base) (putF "fields" (.ref ft) (putF "name" (.str kd.name) [])))))) K6 X7
      have t7 := kp_tup (gs := putF "key" (oV kd.key) (putF "heirs" (.bl kd.heirs) (putF "frozen" (.bl kd.frozen) (putF "base" (oV kd.base) (putF "fields" (.ref ft) (putF "name" (.str kd.name) [])))))) (ex_t X7 t6) (X7 _ _ upd_same)
      refine s_setF (ev_var rfl) (ev_var rfl) upd_same T.cl_Kind T.na_Kind_registered (Nat.lt_of_le_of_lt (len_put (n := 5) (len_put (n := 4) (len_put (n := 3) (len_put (n := 2) (len_put (n := 1) (len_put (n := 0) (Nat.le_refl _))))))) (by decide)) fun H8 X8 => ?_
      have K8 := kp_ins (C := T.C_Kind) (dx := dx) (fs := putF "registered" (.bl kd.registered) (putF "key" (oV kd.key) (putF "heirs" (.bl kd.heirs) (putF "frozen" (.bl kd.frozen) (putF "base" (oV kd.base) (putF "fields" (.ref ft) (putF "name" (.str kd.name) []))))))) K7 X8
      have t8 := kp_tup (gs := putF "registered" (.bl kd.registered) (putF "key" (oV kd.key) (putF "heirs" (.bl kd.heirs) (putF "frozen" (.bl kd.frozen) (putF "base" (oV kd.base) (putF "fields" (.ref ft) (putF "name" (.str kd.name) []))))))) (ex_t X8 t7) (X8 _ _ upd_same)
      refine kq kd ef hr' _ K8 ⟨x, dx, _, ft, xs, rfl, upd_same, ?_, ?_, ?_, ?_, ?_, ?_, lk_same, t8, Paired.mapP hp2 fun v f h => FAt.kpx hx K8 h⟩
      · rw [lk_ne (by decide +kernel), lk_ne (by decide +kernel), lk_ne (by decide +kernel), lk_ne (by decide +kernel), lk_ne (by decide +kernel), lk_ne (by decide +kernel), lk_same]
      · rw [lk_ne (by decide +kernel), lk_ne (by decide +kernel), lk_ne (by decide +kernel), lk_ne (by decide +kernel), lk_ne (by decide +kernel), lk_same]
      · rw [lk_ne (by decide +kernel), lk_ne (by decide +kernel), lk_ne (by decide +kernel), lk_ne (by decide +kernel), lk_same]
      · rw [lk_ne (by decide +kernel), lk_ne (by decide +kernel), lk_ne (by decide +kernel), lk_same]
      · rw [lk_ne (by decide +kernel), lk_ne (by decide +kernel), lk_same]
      · rw [lk_ne (by decide +kernel), lk_same]
end
end K03

namespace K03
open PySem L2 Way Evl
section
variable {X : Cx} {P : Program} {K : PySem.W.Frag} {mg : Str → Option Value}
/-! binding -/
def gUW {α : Type} (us _mv ws : List α) : List α := us ++ ws
theorem bdF (T : Txt P K mg) : ∃ ds, Vals [.non, .int 0, .ref T.e0_Field_init] ds ∧ Binds K T.d_Field_init P_Field_init ds :=
  T.F_Field_init.binds0 3 (by simp) rfl fun D doc pm an cdv ct us ks h1 h2 => match us, ks, h1, h2 with
    | [_, _, _], [_, _, _], _, _ => ⟨_, _, _, _, _, _, rfl, rfl, ⟨_, _, _, _, _, _, rfl, rfl, ⟨_, _, _, _, _, _, rfl, rfl, rfl⟩⟩⟩
theorem kbF (T : Txt P K mg) : ∃ mv : List Value, KBn K T.d_Field_init P_Field_init 3 ["target", "default", "was"] (fun us ws => gUW us mv ws) (fun vs zs => gUW vs [] zs) :=
  kbinds0 T.F_Field_init 3 ["target", "default", "was"] [] gUW (by simp) (by simp) (fun a _ c => a.append c) fun D doc pm an cdv ct us mv ws h1 h2 h3 => match us, mv, ws, h1, h2, h3 with
    | [_, _, _], [], [_, _, _], _, _, _ => rfl
theorem bdK (T : Txt P K mg) : ∃ ds, Vals [.non, .bl false, .bl false, .non, .bl false] ds ∧ Binds K T.d_Kind_init P_Kind_init ds :=
  T.F_Kind_init.binds0 3 (by simp) rfl fun D doc pm an cdv ct us ks h1 h2 => match us, ks, h1, h2 with
    | [_, _, _], [_, _, _, _, _], _, _ => ⟨_, _, _, _, _, _, rfl, rfl, ⟨_, _, _, _, _, _, rfl, rfl, ⟨_, _, _, _, _, _, rfl, rfl, ⟨_, _, _, _, _, _, rfl, rfl, ⟨_, _, _, _, _, _, rfl, rfl, rfl⟩⟩⟩⟩⟩
theorem kbK (T : Txt P K mg) : ∃ mv : List Value, KBn K T.d_Kind_init P_Kind_init 3 ["base", "frozen", "heirs", "key", "registered"] (fun us ws => gUW us mv ws) (fun vs zs => gUW vs [] zs) :=
  kbinds0 T.F_Kind_init 3 ["base", "frozen", "heirs", "key", "registered"] [] gUW (by simp) (by simp) (fun a _ c => a.append c) fun D doc pm an cdv ct us mv ws h1 h2 h3 => match us, mv, ws, h1, h2, h3 with
    | [_, _, _], [], [_, _, _, _, _], _, _, _ => rfl
end
end K03

namespace K03
open PySem L2 Way Evl
/-! words -/
theorem atG {α : Type} {l : List α} {i : Int} {j : Nat} {v : α} (e : i = (j : Int)) (h : l[j]? = some v) : atI l i = some v := by
  subst e
  have hj : j < l.length := (List.getElem?_eq_some_iff.mp h).1
  have h1 : (0 : Int) ≤ (j : Int) := by omega
  have h2 : (j : Int) < (l.length : Int) := by omega
  simp [atI, ixN, h1, h2, h]
theorem lets_app (x y : Str) : lets (x ++ y) = (lets x && lets y) := by
  have e : (x ++ y).cps.toList = x.cps.toList ++ y.cps.toList := TL.tl_append x y
  unfold lets
  rw [e, List.all_append]
theorem len_app (x y : Str) : (x ++ y).length = x.length + y.length := by
  have e : (x ++ y).cps.toList = x.cps.toList ++ y.cps.toList := TL.tl_append x y
  have h := congrArg List.length e
  rw [List.length_append] at h
  simpa [Str.length] using h
theorem lets_one {c : Nat} (h : c ∈ LET) : lets ⟨#[c]⟩ = true := by simp [lets, h]
theorem LET_len : LET.length = 26 := by decide +kernel
theorem app_at {x y : Str} {j : Nat} (h : j < x.length) : (x ++ y).cps.toList[j]? = x.cps.toList[j]? := by
  have e : (x ++ y).cps.toList = x.cps.toList ++ y.cps.toList := TL.tl_append x y
  rw [e, List.getElem?_append_left (by simpa [Str.length] using h)]
theorem app_end {x : Str} {c : Nat} {j : Nat} (h : x.length = j) : (x ++ ⟨#[c]⟩).cps.toList[j]? = some c := by
  have e : (x ++ ⟨#[c]⟩).cps.toList = x.cps.toList ++ [c] := TL.tl_append x ⟨#[c]⟩
  have hl : x.cps.toList.length = j := by simpa [Str.length] using h
  rw [e, List.getElem?_append_right (by omega), hl, Nat.sub_self]
  rfl
theorem LET_is {i : Int} {c : Nat} (h : atI LET i = some c) (h0 : 0 ≤ i) (h1 : i < 26) : LET[i.toNat]? = some c := by
  have hj : i.toNat < LET.length := by rw [LET_len]; omega
  have := atG (l := LET) (j := i.toNat) (by omega : i = ((i.toNat : Nat) : Int)) (List.getElem?_eq_getElem hj)
  rw [this] at h
  rw [List.getElem?_eq_getElem hj, Option.some.inj h]
theorem LET_at {i : Int} (h0 : 0 ≤ i) (h1 : i < 26) : ∃ c, atI LET i = some c ∧ c ∈ LET := by
  have hj : i.toNat < LET.length := by rw [LET_len]; omega
  exact ⟨LET[i.toNat], atG (j := i.toNat) (by omega) (List.getElem?_eq_getElem hj), List.getElem_mem hj⟩
theorem rv_catS {x y : Str} {H : Hp} (h : x.length + y.length ≤ 100000) : RV (fun x y H Q => ∃ i j, x = V.str i ∧ y = V.str j ∧ i.length + j.length ≤ sizeLine ∧ Q (.str (i ++ j)) H) (.str x) (.str y) H (.str (x ++ y)) := fun H1 _ _ q => ⟨x, y, rfl, rfl, sz_of h, q H1 (Ex.refl H1)⟩
def spOneOf (K : PySem.W.Frag) : Sp := fun vs H Q _ => ∃ (p c l : Addr) (k : Nat) (xs : List V), vs = [.ref p, .ref l] ∧ Pen H p c k ∧ k ≤ 90000 ∧ H l = some (.lst xs) ∧ l ≠ p ∧ 0 < xs.length ∧ xs.length ≤ 100 ∧ ∀ H' v, v ∈ xs → Kp p H H' → Pen H' p c (k + 1) → Q v H'
def spWord : Sp := fun vs H Q _ => ∃ (p c : Addr) (k : Nat) (pl ix : Int) (b : Bool), vs = [.ref p, .int pl, .int ix, .bl b, .int 8] ∧ Pen H p c k ∧ k ≤ 80000 ∧ 0 ≤ pl ∧ pl ≤ 7 ∧ 0 ≤ ix ∧ ∀ H' x, Kp p H H' → Pen H' p c (k + 9) → fnS x = true → x.cps.toList[pl.toNat]? = LET[(ix % 26).toNat]? → Q (.str x) H'
section
variable {P : Program} {w : World} {K : PySem.W.Frag} {mg : Str → Option Value} {base : Heap}
/-- take(pen, n) -/
theorem takeN {tn : TE} {σ : L2.St} {H : Hp} {p c : Addr} {k j : Nat} {E : XK} {n : Int} {Q : VK} (hσ : σ[j]? = some (some (.ref p))) (hn : Ev tn σ H (.int n)) (hP : Pen H p c k) (hk : k ≤ 100000) (h0 : 0 < n) (h1 : n ≤ 10000000000000000)
    (kont : ∀ H' d, Kp p H H' → Pen H' p c (k + 1) → 0 ≤ d → d < n → Q (.int d) H') : tCall spTake [] E (tCons (tVar j) (tCons tn tNil)) σ H Q :=
  ⟨_, hσ, hn H (Ex.refl H) _ fun H1 X1 => ⟨p, c, n, k, rfl, hP.mono X1, hk, h0, h1, fun H2 d K2 P2 d0 d1 => kont H2 d (Kp.trans (Kp.of X1) K2) P2 d0 d1⟩⟩
theorem ok_one_of (T : Txt P K mg) : FnOk P w K mg base CX0 2 T.f_one_of T.d_one_of P_one_of (spOneOf K) := by
  have G_take := ok_take (P := P) (w := w) (base := base) T
  refine T.F_one_of.ok sc_one_of (fun vs H Q E h => ?_) (fun cdv A outer s H vs Q E hr h => ?_)
  · obtain ⟨p, c, l, k, xs, rfl, _⟩ := h
    rfl
  · obtain ⟨p, c, l, k, xs, rfl, hP, hk, hl, hlp, h0, h1, kont⟩ := h
    refine ⟨_, (pss_one (ps_ret (pe_ix ix_list (pv 1) (pe_call G_take hr (by rfl) T.g_take T.F_take.kp T.B_take .nil pass0 (pa_cons (pv 0) (pa_cons (pe_callB call_len_seq (by rfl) T.b_len (by decide +kernel) (pa_cons (pv 1) pa_nil)) pa_nil))) (fun _ _ => rfl)))), ?_⟩
    refine ⟨_, rfl, takeN (n := (xs.length : Int)) rfl (ev_cb (ea_cons (ev_var rfl) ea_nil) (rc_lenL (K := K) (sq_of hl))) hP (by omega) (by omega) (by omega) fun H1 d K1 P1 d0 d1 => ?_⟩
    have hd : d.toNat < xs.length := by omega
    refine ⟨l, _, _, _, rfl, rfl, SqL.of (K1 _ _ hlp hl), at_of (j := d.toNat) (by omega) (List.getElem?_eq_getElem hd), ?_⟩
    exact kont _ _ (List.getElem_mem hd) K1 P1
theorem ok_word (T : Txt P K mg) : FnOk P w K mg base CX0 2 T.f_word T.d_word P_word spWord := by
  have G_take := ok_take (P := P) (w := w) (base := base) T
  refine T.F_word.ok sc_word (fun vs H Q E h => ?_) (fun cdv A outer s H vs Q E hr h => ?_)
  · obtain ⟨p, c, k, pl, ix, b, rfl, _⟩ := h
    rfl
  · obtain ⟨p, c, k, pl, ix, b, rfl, hP, hk, p0, p7, i0, kont⟩ := h
    refine ⟨_, (pss_cons (ps_set (i := 5) sc_word.nd rfl (Or.inl rfl) pe_str)
      (pss_cons (ps_set (i := 6) sc_word.nd rfl (Or.inl rfl) (pe_op op_add (pv 1) pe_int))
      (pss_cut (ps_if (pt_not (pt_val (pv 3))) (pss_one (ps_set (i := 6) sc_word.nd rfl (Or.inl rfl) (pe_op op_add (pv 6) (pe_call G_take hr (by rfl) T.g_take T.F_take.kp T.B_take .nil pass0 (pa_cons (pv 0) (pa_cons (pe_op op_sub (pv 4) (pv 1)) pa_nil)))))) pss_nil)
      (pss_cons (ps_set (i := 7) sc_word.nd rfl (Or.inl rfl) pe_str)
      (pss_cons (ps_for PassesOwn.never rfl (pi_range1 (by rfl) T.b_range (pa_cons (pv 6) pa_nil)) (pg_name (i := 8) sc_word.nd rfl (Or.inl rfl)) (pss_one (ps_if (pt_cmpR op_eq (pv 8) (pv 1) (nomark _)) (pss_one (ps_set (i := 7) sc_word.nd rfl (Or.inl rfl) (pe_op op_add_str (pv 7) (pe_ix ix_str (pv 5) (pe_op op_mod (pv 2) pe_int) (fun _ _ => rfl))))) (pss_one (ps_if (pt_val (pv 3)) (pss_one (ps_set (i := 7) sc_word.nd rfl (Or.inl rfl) (pe_op op_add_str (pv 7) pe_str))) (pss_one (ps_set (i := 7) sc_word.nd rfl (Or.inl rfl) (pe_op op_add_str (pv 7) (pe_ix ix_str (pv 5) (pe_call G_take hr (by rfl) T.g_take T.F_take.kp T.B_take .nil pass0 (pa_cons (pv 0) (pa_cons pe_int pa_nil))) (fun _ _ => rfl))))))))))
      (pss_one (ps_ret (pv 7)))))))), ?_⟩
    have hM : (0 : Int) < 26 := by decide
    refine q_asg ev_c fun H1 X1 => ?_
    refine q_asg (v := .int (pl + 1)) (ev_op (ev_var rfl) ev_c rv_I0) fun H2 X2 => ?_
    have X12 := X1.trans X2
    refine q_cut (M := fun σ' H' => ∃ n : Nat, 1 ≤ n ∧ n ≤ 8 ∧ pl < n ∧ σ' = [some (.ref p), some (.int pl), some (.int ix), some (.bl b), some (.int 8), some (.str "abcdefghijklmnopqrstuvwxyz"), some (.int (n : Int)), none, none] ∧ Kp p H H' ∧ Pen H' p c (k + 1)) ?_ ?_
    · refine s_when (et_not (et_B (ev_var rfl))) (fun q H3 X3 => ?_) (fun q H3 X3 => ?_)
      · have X13 := X12.trans X3
        refine ⟨_, rfl, takeN (n := 8 - pl) rfl (ev_op (ev_var rfl) (ev_var rfl) rv_I0) (hP.mono X13) (by omega) (by omega) (by omega) fun H4 d K4 P4 d0 d1 => ?_⟩
        refine ⟨_, _, rfl, rfl, ?_⟩
        refine ⟨(pl + 1 + d).toNat, by omega, by omega, by omega, ?_, Kp.trans (Kp.of X13) K4, P4⟩
        have : (((pl + 1 + d).toNat : Nat) : Int) = pl + 1 + d := by omega
        rw [this]
        rfl
      · refine ⟨(pl + 1).toNat, by omega, by omega, by omega, ?_, Kp.of (X12.trans X3), (hP.mono (X12.trans X3)).le (by omega)⟩
        have : (((pl + 1).toNat : Nat) : Int) = pl + 1 := by omega
        rw [this]
        rfl
    · rintro σ' H3 ⟨n, n1, n8, npl, rfl, K3, P3⟩
      refine q_asg ev_c fun H4 X4 => ?_
      refine q_forR1 (n := (n : Int)) (ea_cons (ev_var rfl) ea_nil) (by omega) (fun i σ H' => ∃ x v8, σ = [some (.ref p), some (.int pl), some (.int ix), some (.bl b), some (.int 8), some (.str "abcdefghijklmnopqrstuvwxyz"), some (.int (n : Int)), some (.str x), v8] ∧ Kp p H H' ∧ Pen H' p c (k + 1 + i) ∧ lets x = true ∧ x.length = i ∧ (pl.toNat < i → x.cps.toList[pl.toNat]? = LET[(ix % 26).toNat]?))
        (fun H5 X5 => ⟨Str.empty, none, rfl, Kp.trans K3 (Kp.of (X4.trans X5)), P3.mono (X4.trans X5), rfl, rfl, fun z => absurd z (Nat.not_lt_zero _)⟩) ?_ ?_
      · rintro i σ' H' hi ⟨x, v8, rfl, K', P', lx, hx, hat⟩
        have hi' : i < n := by omega
        refine s_if (b := decide ((i : Int) = pl)) (et_is (et_test (ev_op (ev_var rfl) (ev_var rfl) (rv_eq rfl))) (by simp)) (fun q H5 X5 => ?_) (fun q H5 X5 => ?_)
        · obtain ⟨ch, h1, h2⟩ := LET_at (i := ix % 26) (Int.emod_nonneg _ (by decide)) (Int.emod_lt_of_pos _ hM)
          refine s_asg (ev_op (ev_var rfl) (ev_op (ev_var rfl) (ev_op (ev_var rfl) ev_c (rv_I hM)) (rv_ixS (w := "abcdefghijklmnopqrstuvwxyz") (by decide +kernel) h1)) (rv_catS (by rw [hx]; show i + 1 ≤ _; omega))) fun H6 X6 => ?_
          exact ⟨_, _, rfl, Kp.trans K' (Kp.of (X5.trans X6)), (P'.mono (X5.trans X6)).le (by omega), by rw [lets_app, lx, lets_one h2]; rfl, by rw [len_app, hx]; rfl, fun z => (by
            have e : (i : Int) = pl := of_decide_eq_true q
            rw [LET_is h1 (Int.emod_nonneg _ (by decide)) (Int.emod_lt_of_pos _ hM)]
            exact app_end (by omega))⟩
        · have qn : (i : Int) ≠ pl := of_decide_eq_false q
          have hkeep : ∀ y : Str, pl.toNat < i + 1 → (x ++ y).cps.toList[pl.toNat]? = LET[(ix % 26).toNat]? := fun y z => by
            have : pl.toNat < i := by omega
            rw [app_at (by omega)]
            exact hat this
          refine s_if (et_B (ev_var rfl)) (fun q2 H6 X6 => ?_) (fun q2 H6 X6 => ?_)
          · refine s_asg (ev_op (ev_var rfl) ev_c (rv_catS (y := "a") (by rw [hx]; show i + 1 ≤ _; omega))) fun H7 X7 => ?_
            exact ⟨_, _, rfl, Kp.trans K' (Kp.of ((X5.trans X6).trans X7)), (P'.mono ((X5.trans X6).trans X7)).le (by omega), by rw [lets_app, lx]; decide +kernel, by rw [len_app, hx]; rfl, hkeep _⟩
          · have X56 := X5.trans X6
            refine ⟨_, rfl, _, rfl, takeN (n := 26) rfl ev_c (P'.mono X56) (by omega) (by decide) (by decide) fun H7 d K7 P7 d0 d1 => ?_⟩
            obtain ⟨ch, h1, h2⟩ := LET_at d0 d1
            refine ⟨_, _, ch, rfl, rfl, sz_of (by decide +kernel), h1, ⟨_, _, rfl, rfl, sz_of (by rw [hx]; show i + 1 ≤ _; omega), ?_⟩⟩
            exact ⟨_, _, rfl, Kp.trans K' (Kp.trans (Kp.of X56) K7), P7, by rw [lets_app, lx, lets_one h2]; rfl, by rw [len_app, hx]; rfl, hkeep _⟩
      · rintro σ' H' ⟨x, v8, rfl, K', P', lx, hx, hat⟩
        refine s_ret (ev_var rfl) fun H6 X6 => kont H6 x (Kp.trans K' (Kp.of X6)) ((P'.mono X6).le (by omega)) ?_ (hat (by omega))
        have hx' : (x.length : Int) = n := by omega
        simp only [fnS, sz8, lx, hx', Bool.and_true, Bool.and_eq_true, decide_eq_true_eq]
        omega
end
end K03

namespace K03
open PySem L2 Way Evl
section
variable {K : PySem.W.Frag} {σ : L2.St} {H : Hp} {tl : TE} {t : TT} {te : TE} {g : TG} {vs : List Nat} {Q : VK}
theorem lc_seq (h : tl σ H fun v H1 => tLc (iList K (tC v)) g t te vs σ H1 Q) : tLc (iList K tl) g t te vs σ H Q := h
end
def spWords : Sp := fun vs H Q _ => ∃ (p c : Addr) (k n : Nat), vs = [.ref p, .int (n : Int), .int 8] ∧ Pen H p c k ∧ k ≤ 70000 ∧ n ≤ 20 ∧ ∀ l H' (ws : List Str), H l = none → Kp p H H' → Pen H' p c (k + 3 + 9 * n) → H' l = some (.lst (ws.map V.str)) → ws.length = n → (∀ x ∈ ws, fnS x = true) → ws.Nodup → Q (.ref l) H'
def spKNs : Sp := fun vs H Q _ => ∃ (p c : Addr) (k n : Nat), vs = [.ref p, .int (n : Int)] ∧ Pen H p c k ∧ k ≤ 70000 ∧ n ≤ 20 ∧ ∀ l H' (ws : List Str), H l = none → Kp p H H' → Pen H' p c (k + 3 + 9 * n) → H' l = some (.lst (ws.map V.str)) → ws.length = n → (∀ x ∈ ws, knS x = true) → ws.Nodup → Q (.ref l) H'
theorem up_cap : ∀ c ∈ LET, PyProof.Rows.up1 c ∈ CAP ∧ c < 128 := by decide +kernel
/-- the name of a kind out of a word -/
def capS (x : Str) : Str := ⟨((x.cps.toList.take 1).map PyProof.Rows.up1).toArray⟩ ++ ⟨(x.cps.toList.drop 1).toArray⟩
theorem capS_kn {x : Str} (h : fnS x = true) : knS (capS x) = true := by
  simp only [fnS, Bool.and_eq_true] at h
  obtain ⟨h8, hl⟩ := h
  obtain ⟨c, r, e, hle⟩ := sz8_cons h8
  unfold lets at hl
  have e1 : (capS x).cps.toList = PyProof.Rows.up1 c :: r := by
    have := TL.tl_append ⟨((x.cps.toList.take 1).map PyProof.Rows.up1).toArray⟩ ⟨(x.cps.toList.drop 1).toArray⟩
    unfold capS
    refine this.trans ?_
    rw [e]
    rfl
  rw [e, List.all_cons, Bool.and_eq_true, decide_eq_true_eq] at hl
  have hlen : (capS x).length = x.length := by
    have h1 : (capS x).length = (capS x).cps.toList.length := by simp [Str.length]
    have h2 : x.length = x.cps.toList.length := by simp [Str.length]
    rw [h1, h2, e1, e]; rfl
  simp only [knS, sz8, hlen, e1, capL, Bool.and_eq_true, decide_eq_true_eq]
  simp only [sz8, Bool.and_eq_true, decide_eq_true_eq] at h8
  exact ⟨h8, (up_cap c hl.1).1, hl.2⟩
theorem LET_inj {a b : Nat} (ha : a < 26) (hb : b < 26) (h : LET[a]? = LET[b]?) : a = b := by
  have : ∀ a : Fin 26, ∀ b : Fin 26, LET[a.val]? = LET[b.val]? → a = b := by decide +kernel
  exact congrArg Fin.val (this ⟨a, ha⟩ ⟨b, hb⟩ h)
theorem nod_of {ws : List Str} {pl : Nat} {o : Int} (o0 : 0 ≤ o) (hl : ws.length ≤ 26) (h : ∀ (i : Nat) x, ws[i]? = some x → x.cps.toList[pl]? = LET[((o + (i : Int)) % 26).toNat]?) : ws.Nodup := by
  rw [List.nodup_iff_pairwise_ne, List.pairwise_iff_getElem]
  intro i j hi hj lt e
  have h1 := h i _ (List.getElem?_eq_getElem hi)
  have h2 := h j _ (List.getElem?_eq_getElem hj)
  rw [e, h2] at h1
  have := LET_inj (by omega) (by omega) h1
  omega
theorem up_inj : ∀ c ∈ LET, ∀ e ∈ LET, PyProof.Rows.up1 c = PyProof.Rows.up1 e → c = e := by decide +kernel
theorem capS_tl {x : Str} (h : fnS x = true) : ∃ c r, x.cps.toList = c :: r ∧ c ∈ LET ∧ (capS x).cps.toList = PyProof.Rows.up1 c :: r := by
  simp only [fnS, Bool.and_eq_true] at h
  obtain ⟨h8, hl⟩ := h
  obtain ⟨c, r, e, hle⟩ := sz8_cons h8
  unfold lets at hl
  rw [e, List.all_cons, Bool.and_eq_true, decide_eq_true_eq] at hl
  refine ⟨c, r, e, hl.1, ?_⟩
  have := TL.tl_append ⟨((x.cps.toList.take 1).map PyProof.Rows.up1).toArray⟩ ⟨(x.cps.toList.drop 1).toArray⟩
  unfold capS
  refine this.trans ?_
  rw [e]
  rfl
theorem capS_inj {x y : Str} (hx : fnS x = true) (hy : fnS y = true) (h : capS x = capS y) : x = y := by
  obtain ⟨c, r, e1, l1, t1⟩ := capS_tl hx
  obtain ⟨d, s, e2, l2, t2⟩ := capS_tl hy
  rw [h, t2] at t1
  have q := List.cons.inj t1
  have := up_inj d l2 c l1 q.1
  have e3 : x.cps.toList = y.cps.toList := by rw [e1, e2, this, q.2]
  cases x; cases y
  simpa using e3
theorem nod_cap {ws : List Str} (h : ws.Nodup) (f : ∀ x ∈ ws, fnS x = true) : (ws.map capS).Nodup := by
  induction ws with
  | nil => exact List.nodup_nil
  | cons a r ih =>
    rw [List.nodup_cons] at h
    rw [List.map_cons, List.nodup_cons]
    refine ⟨fun z => ?_, ih h.2 fun x hx => f x (List.mem_cons_of_mem _ hx)⟩
    obtain ⟨y, hy, e⟩ := List.mem_map.mp z
    have := capS_inj (f y (List.mem_cons_of_mem _ hy)) (f a (List.mem_cons_self ..)) e
    rw [this] at hy
    exact h.1 hy
theorem up_one {c : Nat} (h : c ∈ LET) : Txt.upper ⟨#[c]⟩ = ⟨#[PyProof.Rows.up1 c]⟩ := by
  have := SX.upper_S (a := [c]) (by simp [(up_cap c h).2])
  simpa using this
theorem ev_up {σ : L2.St} {H : Hp} {te : TE} {x : Str} (h : Ev te σ H (.str x)) (hl : x.length ≤ 100) : Ev (tM0 (fun x xs H Q => ∃ a, x = .str a ∧ xs = [] ∧ a.length ≤ 5592405 ∧ Q (.str (Txt.upper a)) H) te) σ H (.str (Txt.upper x)) := fun H1 e Q q =>
  h H1 e _ fun H2 e2 => ⟨⟨x, rfl⟩, x, rfl, rfl, by omega, q H2 e2⟩
section
variable {P : Program} {w : World} {K : PySem.W.Frag} {mg : Str → Option Value} {base : Heap}
theorem ok_words (T : Txt P K mg) : FnOk P w K mg base CX0 3 T.f_words T.d_words P_words spWords := by
  have G_one_of := ok_one_of (P := P) (w := w) (base := base) T
  have G_take := ok_take (P := P) (w := w) (base := base) T
  have G_word := ok_word (P := P) (w := w) (base := base) T
  refine T.F_words.ok sc_words (fun vs H Q E h => ?_) (fun cdv A outer s H vs Q E hr h => ?_)
  · obtain ⟨p, c, k, n, rfl, _⟩ := h
    rfl
  · obtain ⟨p, c, k, n, rfl, hP, hk, hn, kont⟩ := h
    refine ⟨_, (pss_cons (ps_set (i := 3) sc_words.nd rfl (Or.inr rfl) (pe_cmpR op_gt (pe_call G_take (hr.mono (by decide)) (by rfl) T.g_take T.F_take.kp T.B_take .nil pass0 (pa_cons (pv 0) (pa_cons pe_int pa_nil))) pe_int (nomark _)))
      (pss_cons (ps_set (i := 4) sc_words.nd rfl (Or.inr rfl) (pe_call G_one_of hr (by rfl) T.g_one_of T.F_one_of.kp T.B_one_of .nil pass0 (pa_cons (pv 0) (pa_cons (pe_lst (pa_cons pe_int (pa_cons pe_int (pa_cons pe_int (pa_cons (pe_op op_sub (pv 2) pe_int) pa_nil))))) pa_nil))))
      (pss_cons (ps_set (i := 5) sc_words.nd rfl (Or.inr rfl) (pe_call G_take (hr.mono (by decide)) (by rfl) T.g_take T.F_take.kp T.B_take .nil pass0 (pa_cons (pv 0) (pa_cons pe_int pa_nil))))
      (pss_one (ps_ret (pe_lc (own := [("_law_k", 6)]) (g := gName 6) (by rfl) sc_words.nd (pi_range1 (by rfl) T.b_range (pa_cons (pv 1) pa_nil)) (blkOk_by (own := [("_law_k", 6)]) (N := N_words) (sc := defScope s_words) (by decide +kernel)) (fun _ _ _ _ _ => (pg_name (i := 6) sc_words.nd rfl (Or.inl rfl))) (fun _ _ _ _ _ => pts_nil) (fun _ _ _ _ _ => (pe_call G_word hr (by rfl) T.g_word T.F_word.kp T.B_word .nil pass0 (pa_cons (pv 0) (pa_cons (pv 4) (pa_cons (pe_op op_add (pv 5) (pv 6)) (pa_cons (pv 3) (pa_cons (pv 2) pa_nil))))))))))))), ?_⟩
    refine takeN (n := 3) rfl ev_c hP (by omega) (by decide) (by decide) fun H1 d1 K1 P1 a0 a1 => ⟨_, _, rfl, rfl, ?_⟩
    refine ⟨_, rfl, (el_lst (vs := [.int 0, .int 0, .int 1, .int 7]) (ea_cons ev_c (ea_cons ev_c (ea_cons ev_c (ea_cons (ev_op (ev_var rfl) ev_c rv_I0) ea_nil)))) (Nat.le_of_ble_eq_true rfl) : EvL _ _ H1 _) H1 (Ex.refl H1) _ fun l H2 hl X2 h2 => ?_⟩
    refine ⟨p, c, l, k + 1, _, rfl, P1.mono X2, by omega, h2, P1.ne hl, by decide, by decide, fun H3 v hv K3 P3 => ?_⟩
    obtain ⟨pl, rfl, p0, p7⟩ : ∃ pl : Int, v = .int pl ∧ 0 ≤ pl ∧ pl ≤ 7 := by
      simp only [List.mem_cons, List.not_mem_nil, or_false] at hv
      rcases hv with rfl | rfl | rfl | rfl
      · exact ⟨0, rfl, by decide, by decide⟩
      · exact ⟨0, rfl, by decide, by decide⟩
      · exact ⟨1, rfl, by decide, by decide⟩
      · exact ⟨7, rfl, by decide, by decide⟩
    refine takeN (n := 26) rfl ev_c P3 (by omega) (by decide) (by decide) fun H4 o K4 P4 o0 o1 => ?_
    have K04 : Kp p H H4 := Kp.trans K1 (Kp.trans (Kp.of X2) (Kp.trans K3 K4))
    refine ⟨_, rfl, (n : Int), rfl, by omega, by omega, fun D hD => ?_⟩
    have hDp := P4.ne hD
    refine lc_range (fun i H' => ∃ ws : List Str, H' D = some (.lst (ws.map V.str)) ∧ ws.length = i ∧ (∀ x ∈ ws, fnS x = true) ∧ (∀ (i : Nat) x, ws[i]? = some x → x.cps.toList[pl.toNat]? = LET[((o + (i : Int)) % 26).toNat]?) ∧ Kp p H4 H' ∧ Pen H' p c (k + 3 + 9 * i)) ?_ ?_ ?_
    · exact ⟨[], upd_same, rfl, fun x hx => absurd hx List.not_mem_nil, (fun i x z => by simp at z), Kp.new (Kp.refl _ _) hD, (P4.upd hDp (P4.neC hD)).le (by omega)⟩
    · rintro i H' hi ⟨ws, h1, h2, h3, hat, h4, h5⟩
      have hi' : i < n := by simpa using hi
      refine ⟨rfl, ?_⟩
      refine ⟨_, rfl, _, rfl, _, rfl, _, rfl, ⟨_, _, rfl, rfl, ⟨_, rfl, _, rfl, ?_⟩⟩⟩
      refine ⟨p, c, k + 3 + 9 * i, pl, o + i, decide ((0 : Int) < d1), ?_, h5, by omega, p0, p7, by omega, fun H5 x K5 P5 fx ax => ?_⟩
      · simp
      · refine ⟨ws.map V.str, K5 _ _ hDp h1, sz_lt (by rw [List.length_map]; omega), ws ++ [x], by rw [upd_same, List.map_append]; rfl, by rw [List.length_append, h2]; rfl, fun y hy => ?_, fun j y hj => ?_, Kp.new (Kp.trans h4 K5) hD, (P5.upd hDp (P4.neC hD)).le (by omega)⟩
        · rcases List.mem_append.mp hy with hy | hy
          · exact h3 y hy
          · rw [List.mem_singleton.mp hy]; exact fx
        · rw [List.getElem?_append] at hj
          split at hj
          · exact hat j y hj
          · rename_i hn
            have hj0 : j = i := by
              cases hq : j - ws.length with
              | zero => omega
              | succ m => rw [hq] at hj; cases hj
            subst hj0
            rw [h2, Nat.sub_self] at hj
            cases hj
            exact ax
    · rintro H' ⟨ws, h1, h2, h3, hat, h4, h5⟩
      have e : ((n : Int)).toNat = n := by omega
      rw [e] at h2 h5
      exact kont D H' ws (Kp.free K04 hDp hD) (Kp.trans K04 h4) h5 h1 h2 h3 (nod_of o0 (by omega) hat)
theorem ok_kind_names (T : Txt P K mg) : FnOk P w K mg base CX0 4 T.f_kind_names T.d_kind_names P_kind_names spKNs := by
  have G_words := ok_words (P := P) (w := w) (base := base) T
  refine T.F_kind_names.ok sc_kind_names (fun vs H Q E h => ?_) (fun cdv A outer s H vs Q E hr h => ?_)
  · obtain ⟨p, c, k, n, rfl, _⟩ := h
    rfl
  · obtain ⟨p, c, k, n, rfl, hP, hk, hn, kont⟩ := h
    refine ⟨_, (pss_one (ps_ret (pe_lc (own := [("_law_word_here", 2)]) (g := gName 2) (by rfl) sc_kind_names.nd (pi_list (pe_call G_words hr (by rfl) T.g_words T.F_words.kp T.B_words .nil pass0 (pa_cons (pv 0) (pa_cons (pv 1) (pa_cons pe_int pa_nil))))) (blkOk_by (own := [("_law_word_here", 2)]) (N := N_kind_names) (sc := defScope s_kind_names) (by decide +kernel)) (fun _ _ _ _ _ => (pg_name (i := 2) sc_kind_names.nd rfl (Or.inl rfl))) (fun _ _ _ _ _ => pts_nil) (fun _ _ _ _ _ => (pe_op op_add_str (pe_upper (pe_ix ix_str (pv 2) pe_int (fun _ _ => rfl))) (pe_slice C8.sl_txt (pv 2) (po_some pe_int) po_none)))))), ?_⟩
    refine lc_seq ?_
    refine ⟨_, rfl, _, rfl, p, c, k, n, rfl, hP, hk, hn, fun l H1 ws hl K1 P1 h1 hlen hf hnd => ?_⟩
    have e : ws.map (fun x => V.str (capS x)) = (ws.map capS).map V.str := by rw [List.map_map]; rfl
    refine (el_mapL (K := K) (α := Str) (P := fun x v _ => v = .str x) (S := ws) (w := fun x => .str (capS x)) (fun _ _ _ _ _ z => z) ev_c ⟨l, _, rfl, h1, ?_⟩ (by omega) (fun _ => rfl) (fun v x H2 X2 hx hv => ?_) : EvL _ _ H1 _) H1 (Ex.refl H1) _ fun D H2 hD X2 h2 => ?_
    · clear h1 hlen hf e hnd
      induction ws with
      | nil => exact .nil
      | cons a r ih => exact .cons rfl ih
    · subst hv
      have fx := hf x hx
      simp only [fnS, Bool.and_eq_true] at fx
      obtain ⟨ch, r, e1, h8⟩ := sz8_cons fx.1
      have hc : ch ∈ LET := by
        have h2 := fx.2
        unfold lets at h2
        rw [e1, List.all_cons, Bool.and_eq_true, decide_eq_true_eq] at h2
        exact h2.1
      have hlr : r.length ≤ 8 := by
        have h1 : x.cps.toList.length = x.length := by simp [Str.length]
        rw [e1, List.length_cons] at h1
        omega
      refine ev_is (ev_op (ev_up (ev_op (ev_var rfl) ev_c (rv_ixS (by omega) (at0 e1))) (by show 1 ≤ 100; decide)) (ev_is (ev_slX (ev_var rfl) (eo_some ev_c) eo_none (by omega)) (congrArg V.str (slice1 e1))) (rv_catS ?_)) ?_
      · have e2 : (Txt.upper ⟨#[ch]⟩) = ⟨#[PyProof.Rows.up1 ch]⟩ := up_one hc
        rw [e2]
        show 1 + (Str.mk r.toArray).length ≤ _
        have : (Str.mk r.toArray).length = r.length := by simp [Str.length]
        omega
      · have e2 : (Txt.upper ⟨#[ch]⟩) = ⟨#[PyProof.Rows.up1 ch]⟩ := up_one hc
        rw [e2]
        unfold capS
        rw [e1]
        rfl
    · rw [e] at h2
      have hDp := P1.ne hD
      refine kont D H2 (ws.map capS) (Kp.free K1 hDp hD) (Kp.trans K1 (Kp.of X2)) (P1.mono X2) h2 (by rw [List.length_map, hlen]) (fun y hy => ?_) (nod_cap hnd hf)
      obtain ⟨x, hx, rfl⟩ := List.mem_map.mp hy
      exact capS_kn (hf x hx)
end
end K03

namespace K03
open PySem L2 Way Evl
/-! houses: the plain law -/
def kfind (ks : List Kd) (n : Str) : Option Kd := ks.find? fun k => decide (k.name = n)
def baseFs (ks : List Kd) (k : Kd) : List Fd := match k.base with
  | none => []
  | some b => match kfind ks b with
    | some k' => k'.fields
    | none => []
/-- the fields of the base, the own ones -/
def gath (ks : List Kd) (k : Kd) : List Fd := baseFs ks k ++ k.fields
def tgtOk (names : List Str) (f : Fd) : Bool := match f.tgt with
  | none => true
  | some t => decide (t = "any") || decide (t ∈ names)
def baseOk (ks : List Kd) (k : Kd) : Bool := match k.base with
  | none => true
  | some b => match kfind ks b with
    | some k' => k'.heirs
    | none => false
def keyOk (fs : List Fd) (k : Kd) : Bool := match k.key with
  | none => true
  | some y => fs.all (fun f => decide (f.mode = ("mark" : Str))) && decide (y ∈ fs.map Fd.name)
def fitsK (ks : List Kd) (names : List Str) (k : Kd) : Bool := !decide (k.name ∈ ks.map Kd.name) && (baseOk ks k && (fAF (.seq true ((gath ks k).map .fld)) 10 && ((gath ks k).all (tgtOk names) && keyOk (gath ks k) k)))
/-! kinds by their names -/
def edK (ms : List (Kd × V)) : List (Key × V) := ms.map fun m => (.inr m.1.name, m.2)
theorem edK_val (n : Str) : ∀ ms : List (Kd × V), valV (edK ms) (.inr n) = (ms.find? fun m => decide (m.1.name = n)).map Prod.snd
  | [] => rfl
  | m :: r => by
    by_cases h : m.1.name = n
    · unfold edK
      rw [List.map_cons, valV_pos (by rw [h]), List.find?_cons_of_pos (by simpa using h)]; rfl
    · unfold edK
      rw [List.map_cons, valV_neg (kne h), List.find?_cons_of_neg (by simpa using h)]
      exact edK_val n r
theorem kfind_ms (n : Str) : ∀ ms : List (Kd × V), kfind (ms.map Prod.fst) n = (ms.find? fun m => decide (m.1.name = n)).map Prod.fst
  | [] => rfl
  | m :: r => by
    by_cases h : m.1.name = n
    · unfold kfind
      rw [List.map_cons, List.find?_cons_of_pos (by simpa using h), List.find?_cons_of_pos (by simpa using h)]; rfl
    · unfold kfind
      rw [List.map_cons, List.find?_cons_of_neg (by simpa using h), List.find?_cons_of_neg (by simpa using h)]
      exact kfind_ms n r
theorem kfind_mem {ks : List Kd} {n : Str} : (kfind ks n).isSome = decide (n ∈ ks.map Kd.name) := by
  induction ks with
  | nil => rfl
  | cons k r ih =>
    by_cases h : k.name = n
    · unfold kfind
      rw [List.find?_cons_of_pos (by simpa using h), List.map_cons, decide_eq_true (by rw [h]; exact List.mem_cons_self ..)]; rfl
    · unfold kfind
      rw [List.find?_cons_of_neg (by simpa using h)]
      refine ih.trans (decide_eq_decide.mpr ?_)
      rw [List.map_cons, List.mem_cons]
      exact ⟨.inr, fun z => z.elim (fun e => absurd e.symm h) id⟩
structure EAt (K : PySem.W.Frag) (CF CK : Addr) (ms : List (Kd × V)) (e : Addr) (H : Hp) : Prop where
  h : H e = some (.dK (edK ms))
  k : ∀ m ∈ ms, KAt K CF CK m.1 m.2 H ∧ m.1.fields.length ≤ 10
theorem EAt.mono {K : PySem.W.Frag} {CF CK e : Addr} {ms : List (Kd × V)} {H H' : Hp} (x : Ex H H') (h : EAt K CF CK ms e H) : EAt K CF CK ms e H' := ⟨x _ _ h.h, fun m hm => ⟨(h.k m hm).1.mono x, (h.k m hm).2⟩⟩
theorem EAt.find {K : PySem.W.Frag} {CF CK e : Addr} {ms : List (Kd × V)} {H : Hp} (h : EAt K CF CK ms e H) {n : Str} {k : Kd} (f : kfind (ms.map Prod.fst) n = some k) : ∃ v, valV (edK ms) (.inr n) = some v ∧ KAt K CF CK k v H ∧ k.fields.length ≤ 10 ∧ k.name = n := by
  rw [kfind_ms] at f
  cases q : ms.find? (fun m => decide (m.1.name = n)) with
  | none => rw [q] at f; cases f
  | some m =>
    rw [q] at f
    cases f
    have hm := List.mem_of_find?_eq_some q
    have hn := List.find?_some q
    exact ⟨m.2, by rw [edK_val, q]; rfl, (h.k m hm).1, (h.k m hm).2, of_decide_eq_true hn⟩
theorem fAt_mon {K : PySem.W.Frag} {C : Addr} : Mon (FAt K C) := fun _ _ _ _ e h => h.mono e
def spGa (K : PySem.W.Frag) (CF CK : Addr) : Sp := fun vs H Q _ => ∃ (v : V) (e : Addr) (kd : Kd) (ms : List (Kd × V)), vs = [v, .ref e] ∧ KAt K CF CK kd v H ∧ kd.fields.length ≤ 10 ∧ EAt K CF CK ms e H ∧ (∀ b, kd.base = some b → ∃ k, kfind (ms.map Prod.fst) b = some k) ∧
  ∀ l H' xs, H l = none → Ex H H' → H' l = some (.lst xs) → Paired (fun x f => FAt K CF f x H') xs (gath (ms.map Prod.fst) kd) → Q (.ref l) H'
def spFH (K : PySem.W.Frag) (CF CK : Addr) : Sp := fun vs H Q _ => ∃ (v : V) (e ln : Addr) (kd : Kd) (ms : List (Kd × V)) (names : List Str), vs = [v, .ref e, .ref ln] ∧ KAt K CF CK kd v H ∧ kd.fields.length ≤ 10 ∧ EAt K CF CK ms e H ∧ H ln = some (.lst (names.map V.str)) ∧
  ∀ H', Ex H H' → Q (.bl (fitsK (ms.map Prod.fst) names kd)) H'
theorem gath_len {K : PySem.W.Frag} {CF CK e : Addr} {ms : List (Kd × V)} {H : Hp} (h : EAt K CF CK ms e H) {kd : Kd} (hl : kd.fields.length ≤ 10) : (gath (ms.map Prod.fst) kd).length ≤ 20 := by
  unfold gath baseFs
  rw [List.length_append]
  cases kd.base with
  | none => simp; omega
  | some b =>
    cases q : kfind (ms.map Prod.fst) b with
    | none => simp [q]; omega
    | some k =>
      obtain ⟨v, _, _, h3, _⟩ := h.find q
      simp only [q]
      omega
section
variable {P : Program} {w : World} {K : PySem.W.Frag} {mg : Str → Option Value} {base : Heap}
theorem ok_gathered (T : Txt P K mg) : FnOk P w K mg base CX0 1 T.f_gathered T.d_gathered P_gathered (spGa K T.C_Field T.C_Kind) := by
  refine T.F_gathered.ok sc_gathered (fun vs H Q E h => ?_) (fun cdv A outer s H vs Q E hr h => ?_)
  · obtain ⟨v, e, kd, ms, rfl, _⟩ := h
    rfl
  · obtain ⟨v, e, kd, ms, rfl, hk, hkl, he, hb, kont⟩ := h
    refine ⟨_, (pss_cons (ps_set (i := 2) sc_gathered.nd rfl (Or.inl rfl) (pe_ifExp (pt_cmpR op_notN (pe_fld (pv 0) rfl) pe_non (nomark _)) (pe_callTy call_list_of (by rfl) T.b_list (by decide +kernel) (pa_cons (pe_fld (pe_dget (hu_of hr) (pv 1) (pe_fld (pv 0) rfl) (fun _ _ => rfl)) rfl) pa_nil)) (pe_lst pa_nil)))
      (pss_cons (ps_expr (pe_bm PySem.F.plainAttrs_list PySem.F.slot_list_extend PySem.F.type_list_extend Way.mt_extT (pv 2) (pa_cons (pe_fld (pv 0) rfl) pa_nil)))
      (pss_one (ps_ret (pv 2))))), ?_⟩
    obtain ⟨a, dx, fs, ft, ys, rfl, h1, h2, h3, h4, h5, h6, h7, h8, h9, h10⟩ := hk
    have ly : ys.length = kd.fields.length := Paired.length h10
    have head : ∃ xs, EvL (tIf (tTest (tOp (fun x y H Q => y = V.non ∧ Q (.bl (!decide (x = V.non))) H) (tFld K (tVar 0) "base") (tC .non))) (tCB (fun xs H Q => ∃ p ys, xs = [V.ref p] ∧ (SqL K H p ys ∨ SqT K H p ys) ∧ ∀ l, H l = none → Q (.ref l) (upd H l (.lst ys))) (tCons (tFld K (tDGet (tVar 1) (tFld K (tVar 0) "base")) "fields") tNil)) (tLst tNil)) [some (.ref a), some (.ref e), none] H xs ∧ Paired (fun x f => FAt K T.C_Field f x H) xs (baseFs (ms.map Prod.fst) kd) ∧ xs.length ≤ 10 := by
      unfold baseFs
      cases hb' : kd.base with
      | none =>
        rw [hb'] at h4
        exact ⟨[], el_ifE (b := false) (et_is (et_test (ev_op (ev_fld (ev_var rfl) h1 T.cl_Kind T.na_Kind_base h4) ev_c rv_notN)) rfl) (fun z => nomatch z) (fun _ => el_lst ea_nil (Nat.zero_le _)), .nil, by decide⟩
      | some b =>
        rw [hb'] at h4
        obtain ⟨k, hf⟩ := hb b hb'
        obtain ⟨u, hu, hku, hl, _⟩ := he.find hf
        obtain ⟨a', dx', fs', ft', zs, rfl, g1, g2, g3, g4, g5, g6, g7, g8, g9, g10⟩ := hku
        refine ⟨zs, el_ifE (b := true) (et_is (et_test (ev_op (ev_fld (ev_var rfl) h1 T.cl_Kind T.na_Kind_base h4) ev_c rv_notN)) rfl) (fun _ => el_listN (ev_fld (ev_dgetK (ev_var rfl) (ev_fld (ev_var rfl) h1 T.cl_Kind T.na_Kind_base h4) he.h hu) g1 T.cl_Kind T.na_Kind_fields g3) (.inr g9)) (fun z => nomatch z), ?_, ?_⟩
        · simp only [hf]
          exact g10
        · rw [Paired.length g10]; exact hl
    obtain ⟨xs, hx, hpx, hxl⟩ := head
    refine q_any (hx H (Ex.refl H) _ fun l H1 hl X1 hl1 => ?_)
    refine q_ext hl1 (ev_var rfl) (ev_fld (ev_var rfl) (X1 _ _ h1) T.cl_Kind T.na_Kind_fields h3) (ex_t X1 h9) (by omega) fun H2 X2 => ?_
    have X12 := X1.trans X2
    have X : Ex H (upd H2 l (.lst (xs ++ ys))) := Ex.mut X12 hl
    refine s_ret (ev_var rfl) fun H3 X3 => kont l H3 _ hl (X.trans X3) (X3 _ _ upd_same) ?_
    have XX := X.trans X3
    have ap : ∀ {xs ys : List V} {fs gs : List Fd}, Paired (fun x f => FAt K T.C_Field f x H) xs fs → Paired (fun x f => FAt K T.C_Field f x H) ys gs → Paired (fun x f => FAt K T.C_Field f x H3) (xs ++ ys) (fs ++ gs) := fun {xs ys fs gs} p q => by
      induction p with
      | nil => exact Paired.mapP q fun _ _ z => z.mono XX
      | cons a _ ih => exact .cons (a.mono XX) ih
    exact ap hpx h10
theorem ok_fits_house (T : Txt P K mg) : FnOk P w K mg base CX0 2 T.f_fits_house T.d_fits_house P_fits_house (spFH K T.C_Field T.C_Kind) := by
  have G_gathered := ok_gathered (P := P) (w := w) (base := base) T
  have G_are_fields := ok_are_fields (P := P) (w := w) (base := base) T
  refine T.F_fits_house.ok sc_fits_house (fun vs H Q E h => ?_) (fun cdv A outer s H vs Q E hr h => ?_)
  · obtain ⟨v, e, ln, kd, ms, names, rfl, _⟩ := h
    rfl
  · obtain ⟨v, e, ln, kd, ms, names, rfl, hk, hkl, he, hn, kont⟩ := h
    refine ⟨_, (pss_cons (ps_if (pt_cmp (pc_din (hu_of hr) (pe_fld (pv 0) rfl) (pv 1)) (by rfl)) (pss_one (ps_ret pe_bl)) pss_nil)
      (pss_cons (ps_if (PW.pt (pw_and (pt_cmpR op_notN (pe_fld (pv 0) rfl) pe_non (nomark _)) (pw_and1 (PW.pt (pw_or (pt_cmp (pc_dnotin (hu_of hr) (pe_fld (pv 0) rfl) (pv 1)) (by rfl)) (pw_or1 (pt_not (pt_val (pe_fld (pe_dget (hu_of hr) (pv 1) (pe_fld (pv 0) rfl) (fun _ _ => rfl)) rfl))))))))) (pss_one (ps_ret pe_bl)) pss_nil)
      (pss_cons (ps_set (i := 3) sc_fits_house.nd rfl (Or.inl rfl) (pe_call G_gathered hr (by rfl) T.g_gathered T.F_gathered.kp T.B_gathered .nil pass0 (pa_cons (pv 0) (pa_cons (pv 1) pa_nil))))
      (pss_cons (ps_if (pt_not (pt_val (pe_call G_are_fields hr (by rfl) T.g_are_fields T.F_are_fields.kp T.B_are_fields .nil pass0 (pa_cons (pv 3) (pa_cons (ClX.pe_cval (pe_glob (v := .ref T.C_House) (by rfl) T.g_House rfl)) pa_nil))))) (pss_one (ps_ret pe_bl)) pss_nil)
      (pss_cons (ps_if (pt_not (pt_val (pe_callB (cr_all rfl) (by rfl) T.b_all (by decide +kernel) (pa_cons (pe_lc (own := [("one", 4)]) (g := gName 4) (by rfl) sc_fits_house.nd (pi_list (pv 3)) (blkOk_by (own := [("one", 4)]) (N := N_fits_house) (sc := defScope s_fits_house) (by decide +kernel)) (fun _ _ _ _ _ => (pg_name (i := 4) sc_fits_house.nd rfl (Or.inl rfl))) (fun _ _ _ _ _ => pts_nil) (fun _ _ _ _ _ => (pe_or (pe_cmpR op_isN (Way.kk_fld (K := K) (pv 4) rfl) pe_non (nomark _)) (pe_or (pe_cmpR op_eq (Way.kk_fld (K := K) (pv 4) rfl) (pe_glob (v := .str "any") (by rfl) T.g_ANY ⟨_, rfl⟩) (nomark _)) (pe_one (pe_cmpR (Way.kk_in (K := K)) (Way.kk_fld (K := K) (pv 4) rfl) (pv 2) (by rfl))))))) pa_nil)))) (pss_one (ps_ret pe_bl)) pss_nil)
      (pss_cons (ps_if (pt_cmpR op_isN (pe_fld (pv 0) rfl) pe_non (nomark _)) (pss_one (ps_ret pe_bl)) pss_nil)
      (pss_cons (ps_if (pt_not (pt_val (pe_callB (cr_all rfl) (by rfl) T.b_all (by decide +kernel) (pa_cons (pe_lc (own := [("one", 4)]) (g := gName 4) (by rfl) sc_fits_house.nd (pi_list (pv 3)) (blkOk_by (own := [("one", 4)]) (N := N_fits_house) (sc := defScope s_fits_house) (by decide +kernel)) (fun _ _ _ _ _ => (pg_name (i := 4) sc_fits_house.nd rfl (Or.inl rfl))) (fun _ _ _ _ _ => pts_nil) (fun _ _ _ _ _ => (pe_cmpR op_eq (Way.kk_fld (K := K) (pv 4) rfl) pe_str (nomark _)))) pa_nil)))) (pss_one (ps_ret pe_bl)) pss_nil)
      (pss_one (ps_ret (pe_cmpR op_in_seq (pe_fld (pv 0) rfl) (pe_lc (own := [("one", 4)]) (g := gName 4) (by rfl) sc_fits_house.nd (pi_list (pv 3)) (blkOk_by (own := [("one", 4)]) (N := N_fits_house) (sc := defScope s_fits_house) (by decide +kernel)) (fun _ _ _ _ _ => (pg_name (i := 4) sc_fits_house.nd rfl (Or.inl rfl))) (fun _ _ _ _ _ => pts_nil) (fun _ _ _ _ _ => (Way.kk_fld (K := K) (pv 4) rfl))) (by rfl))))))))))), ?_⟩
    have hkk := hk
    obtain ⟨a, dx, fs, ft, ys, rfl, h1, h2, h3, h4, h5, h6, h7, h8, h9, h10⟩ := hk
    have ret0 : fitsK (ms.map Prod.fst) names kd = false → ∀ (σ : L2.St) (Hx : Hp) (N : L2.St → Hp → Prop), Ex H Hx → tRet (tC (.bl false)) { nx := N, rt := Q } σ Hx := fun h σ Hx N X => s_ret (v := .bl (fitsK (ms.map Prod.fst) names kd)) (ev_is ev_c (by rw [h])) fun H2 X2 => kont H2 (X.trans X2)
    have inE : ∀ n, (valV (edK ms) (.inr n)).isSome = (kfind (ms.map Prod.fst) n).isSome := fun n => by rw [edK_val, kfind_ms, Option.isSome_map, Option.isSome_map]
    refine q_when (b := decide (kd.name ∈ (ms.map Prod.fst).map Kd.name)) (et_B (ev_is (ev_din (ev_fld (ev_var rfl) h1 T.cl_Kind T.na_Kind_name h2) (ev_var rfl) he.h) (by rw [inE, kfind_mem]))) (fun q H1 X1 => ?_) (fun q1 H1 X1 => ?_)
    · exact ret0 (by simp only [fitsK, q]; rfl) _ _ _ X1
    have he1 := he.mono X1
    have h11 := X1 _ _ h1
    refine q_when (b := !baseOk (ms.map Prod.fst) kd) ?_ (fun q H2 X2 => ?_) (fun q2 H2 X2 => ?_)
    · unfold baseOk
      cases hb : kd.base with
      | none =>
        rw [hb] at h4
        exact et_is (et_and (a := false) (b := true) (et_is (et_test (ev_op (ev_fld (ev_var rfl) h11 T.cl_Kind T.na_Kind_base h4) ev_c rv_notN)) rfl) fun z => nomatch z) rfl
      | some b =>
        rw [hb] at h4
        have eb : ∀ Hx, Ex H1 Hx → Ev (tFld K (tVar 0) "base") [some (.ref a), some (.ref e), some (.ref ln), none, none] Hx (.str b) := fun Hx X => ev_fld (ev_var rfl) (X _ _ h11) T.cl_Kind T.na_Kind_base h4
        cases hf : kfind (ms.map Prod.fst) b with
        | none =>
          exact et_is (et_and (a := true) (b := true) (et_is (et_test (ev_op (eb H1 (Ex.refl H1)) ev_c rv_notN)) rfl) fun _ => et_is (et_or (a := true) (b := true) (et_B (ev_is (ev_dnotin (eb H1 (Ex.refl H1)) (ev_var rfl) he1.h) (by rw [inE, hf]; rfl))) fun z => nomatch z) rfl) (by simp [hf])
        | some k =>
          obtain ⟨u, hu, hku, hl, _⟩ := he1.find hf
          obtain ⟨a', dx', fs', ft', zs, rfl, g1, g2, g3, g4, g5, g6, g7, g8, g9, g10⟩ := hku
          exact et_is (et_and (a := true) (b := !k.heirs) (et_is (et_test (ev_op (eb H1 (Ex.refl H1)) ev_c rv_notN)) rfl) fun _ => et_is (et_or (a := false) (b := !k.heirs) (et_B (ev_is (ev_dnotin (eb H1 (Ex.refl H1)) (ev_var rfl) he1.h) (by rw [inE, hf]; rfl))) fun _ => et_not (et_B (ev_fld (ev_dgetK (ev_var rfl) (eb H1 (Ex.refl H1)) he1.h hu) g1 T.cl_Kind T.na_Kind_heirs g6))) (by simp)) (by simp [hf])
    · exact ret0 (by
        have : baseOk (ms.map Prod.fst) kd = false := by simpa using q
        simp [fitsK, this]) _ _ _ (X1.trans X2)
    have q2' : baseOk (ms.map Prod.fst) kd = true := by simpa using q2
    have X12 := X1.trans X2
    refine q_any ⟨_, rfl, _, rfl, .ref a, e, kd, ms, rfl, hkk.mono X12, hkl, he.mono X12, fun b hb => ?_, fun l H3 xs hl X3 h3l hpx => ?_⟩
    · unfold baseOk at q2'
      rw [hb] at q2'
      cases hf : kfind (ms.map Prod.fst) b with
      | none => simp [hf] at q2'
      | some k => exact ⟨k, rfl⟩
    have X13 := X12.trans X3
    have gl := gath_len he hkl
    have hfv : FvAt K T.C_Field (.seq true ((gath (ms.map Prod.fst) kd).map .fld)) (.ref l) H3 := ⟨l, xs, rfl, h3l, by
      clear h3l
      generalize gath (ms.map Prod.fst) kd = gs at hpx
      induction hpx with
      | nil => exact .nil
      | cons a _ ih => exact .cons a ih⟩
    generalize hgs : gath (ms.map Prod.fst) kd = gs at hpx hfv gl
    have h13 := X13 _ _ h1
    refine q_when (b := !fAF (.seq true (gs.map .fld)) 10) (et_not (et_B (ev_af (ev_var rfl) (ev_cval' ev_c T.cr_House T.cv_House_FIELDS) hfv (by decide)))) (fun q H4 X4 => ?_) (fun q3 H4 X4 => ?_)
    · exact ret0 (by
        have : fAF (.seq true (gs.map .fld)) 10 = false := by simpa using q
        simp [fitsK, hgs, this]) _ _ _ (X13.trans X4)
    have q3' : fAF (.seq true (gs.map .fld)) 10 = true := by simpa using q3
    have X14 := X13.trans X4
    have lat : ∀ Hx, Ex H3 Hx → LAt (FAt K T.C_Field) gs (.ref l) Hx := fun Hx X => ⟨l, xs, rfl, X _ _ h3l, Paired.mapP hpx fun _ _ z => z.mono X⟩
    refine q_when (b := !gs.all (tgtOk names)) (et_not (et_B (ev_is (ev_all (bs := gs.map (tgtOk names)) ?_) (by rw [List.all_map]; rfl)))) (fun q H5 X5 => ?_) (fun q4 H5 X5 => ?_)
    · rw [List.map_map]
      refine el_mapL (K := K) (S := gs) (w := fun f => .bl (tgtOk names f)) fAt_mon (ev_var rfl) (lat H4 X4) (by omega) (fun _ => rfl) fun x f H5 X5 hf hx => ?_
      obtain ⟨a', dx', fs', wt, rfl, g1, g2, g3, g4, g5⟩ := hx
      have et : Ev (tFld K (tVar 4) "target") [some (.ref a), some (.ref e), some (.ref ln), some (.ref l), some (.ref a')] H5 (oV f.tgt) := ev_fld (ev_var rfl) g1 T.cl_Field T.na_Field_target g4
      unfold tgtOk
      cases ht : f.tgt with
      | none =>
        rw [ht] at et
        exact ev_is (ev_orV (a := true) (b := true) (ev_is (ev_op et ev_c rv_isN) rfl) fun z => nomatch z) rfl
      | some t =>
        rw [ht] at et
        exact ev_is (ev_orV (a := false) (ev_is (ev_op et ev_c rv_isN) rfl) fun _ => ev_orV (ev_op et ev_c (rv_eq rfl)) fun _ => ev_is (ev_op et (ev_var rfl) (rv_inL (K := K) (neg := false) (sq_of ((X14.trans X5) _ _ hn)) rfl (Way.flat_strs names))) (show V.bl (inV (.str t) (names.map V.str)) = V.bl (decide (t ∈ names)) by rw [inV_strs])) (by simp [oV])
    · exact ret0 (by
        have : gs.all (tgtOk names) = false := by simpa using q
        simp [fitsK, hgs, this]) _ _ _ (X14.trans X5)
    have q4' : gs.all (tgtOk names) = true := by simpa using q4
    have X15 := X14.trans X5
    have fin : fitsK (ms.map Prod.fst) names kd = keyOk gs kd := by simp only [fitsK, hgs, q1, q2', q3', q4']; rfl
    rw [fin] at kont
    have h15 := X15 _ _ h1
    refine q_when (b := Option.isNone kd.key) (et_is (et_test (ev_op (ev_fld (ev_var rfl) h15 T.cl_Kind T.na_Kind_key h7) ev_c rv_isN)) (by cases kd.key <;> rfl)) (fun q H6 X6 => ?_) (fun q5 H6 X6 => ?_)
    · refine s_ret (v := .bl (keyOk gs kd)) (ev_is ev_c ?_) fun H7 X7 => kont H7 (X15.trans (X6.trans X7))
      unfold keyOk
      cases hy : kd.key with
      | none => rfl
      | some y => rw [hy] at q; cases q
    obtain ⟨y, hy⟩ : ∃ y, kd.key = some y := by
      cases hy : kd.key with
      | none => rw [hy] at q5; cases q5
      | some y => exact ⟨y, rfl⟩
    rw [hy] at h7
    have hko : keyOk gs kd = (gs.all (fun f => decide (f.mode = ("mark" : Str))) && decide (y ∈ gs.map Fd.name)) := by unfold keyOk; rw [hy]
    rw [hko] at kont
    have X16 := X15.trans X6
    refine q_when (b := !gs.all (fun f => decide (f.mode = ("mark" : Str)))) (et_not (et_B (ev_is (ev_all (bs := gs.map fun f => decide (f.mode = ("mark" : Str))) ?_) (by rw [List.all_map]; rfl)))) (fun q H7 X7 => ?_) (fun q6 H7 X7 => ?_)
    · rw [List.map_map]
      refine el_mapL (K := K) (S := gs) (w := fun f => .bl (decide (f.mode = ("mark" : Str)))) fAt_mon (ev_var rfl) (lat H6 (X4.trans (X5.trans X6))) (by omega) (fun _ => rfl) fun x f H7 X7 hf hx => ?_
      obtain ⟨a', dx', fs', wt, rfl, g1, g2, g3, g4, g5⟩ := hx
      exact ev_is (ev_op (ev_fld (ev_var rfl) g1 T.cl_Field T.na_Field_mode g3) ev_c (rv_eq rfl)) (by simp)
    · refine s_ret (v := .bl (gs.all (fun f => decide (f.mode = ("mark" : Str))) && decide (y ∈ gs.map Fd.name))) (ev_is ev_c ?_) fun H8 X8 => kont H8 (X16.trans (X7.trans X8))
      have : gs.all (fun f => decide (f.mode = ("mark" : Str))) = false := by simpa using q
      rw [this]; rfl
    · have q6' : gs.all (fun f => decide (f.mode = ("mark" : Str))) = true := by simpa using q6
      rw [q6', Bool.true_and] at kont
      refine s_ret (v := .bl (decide (y ∈ gs.map Fd.name))) (ev_is (ev_opL (xs := (gs.map Fd.name).map V.str) (ev_fld (ev_var rfl) ((X16.trans X7) _ _ h1) T.cl_Kind T.na_Kind_key h7) ?_ fun q H8 h8 X8 => rv_inL (K := K) (neg := false) (sq_of h8) rfl (Way.flat_strs (gs.map Fd.name))) (by show V.bl (inV (.str y) ((gs.map Fd.name).map V.str)) = _; rw [inV_strs])) fun H8 X8 => kont H8 (X16.trans (X7.trans X8))
      rw [List.map_map]
      refine el_mapL (K := K) (S := gs) (w := V.str ∘ Fd.name) fAt_mon (ev_var rfl) (lat H7 (X4.trans (X5.trans (X6.trans X7)))) (by omega) (fun _ => rfl) fun x f H8 X8 hf hx => ?_
      obtain ⟨a', dx', fs', wt, rfl, g1, g2, g3, g4, g5⟩ := hx
      exact ev_fld (ev_var rfl) g1 T.cl_Field T.na_Field_name g2
end
end K03

namespace K03
open PySem L2 Way Evl
/-! houses as they stand -/
def nms (ks : List Kd) : List Str := ks.map Kd.name
/-- a kind as Kind makes it -/
structure KGood (k : Kd) : Prop where
  l : k.fields.length ≤ 10
  n : knS k.name = true
  t : ∀ f ∈ k.fields, f.mode ≠ "mark" → ∃ t, f.tgt = some t
structure HsOk (ks : List Kd) : Prop where
  nd : (nms ks).Nodup
  len : ks.length ≤ 12
  g : ∀ k ∈ ks, KGood k
  b : ∀ k ∈ ks, ∀ b, k.base = some b → ∃ k', kfind ks b = some k'
  t : ∀ k ∈ ks, ∀ f ∈ gath ks k, tgtOk (nms ks) f = true
theorem kfind_some {ks : List Kd} {n : Str} {k : Kd} (h : kfind ks n = some k) : k ∈ ks ∧ k.name = n := ⟨List.mem_of_find?_eq_some h, of_decide_eq_true (by simpa using List.find?_some h)⟩
theorem kfind_self {ks : List Kd} (nd : (nms ks).Nodup) {k : Kd} (h : k ∈ ks) : kfind ks k.name = some k := by
  induction ks with
  | nil => cases h
  | cons a r ih =>
    unfold nms at nd ih
    rw [List.map_cons, List.nodup_cons] at nd
    unfold kfind
    rcases List.mem_cons.mp h with rfl | h
    · rw [List.find?_cons_of_pos (by simp)]
    · have : a.name ≠ k.name := fun e => nd.1 (by rw [e]; exact List.mem_map_of_mem h)
      rw [List.find?_cons_of_neg (by simpa using this)]
      exact ih nd.2 h
theorem kfind_in {ks : List Kd} {n : Str} (h : n ∈ nms ks) : ∃ k, kfind ks n = some k := by
  have e : (kfind ks n).isSome = true := by rw [kfind_mem]; exact decide_eq_true h
  exact Option.isSome_iff_exists.mp e
theorem gath_good {ks : List Kd} (h : HsOk ks) {k : Kd} (hk : k ∈ ks) {f : Fd} (hf : f ∈ gath ks k) (hm : f.mode ≠ "mark") : ∃ t, f.tgt = some t ∧ (t = "any" ∨ t ∈ nms ks) := by
  have tk := h.t k hk f hf
  have : ∃ t, f.tgt = some t := by
    unfold gath at hf
    rcases List.mem_append.mp hf with z | z
    · unfold baseFs at z
      cases hb : k.base with
      | none => rw [hb] at z; cases z
      | some b =>
        rw [hb] at z
        obtain ⟨k', hk'⟩ := h.b k hk b hb
        simp only [hk'] at z
        exact (h.g k' (kfind_some hk').1).t f z hm
    · exact (h.g k hk).t f z hm
  obtain ⟨t, ht⟩ := this
  refine ⟨t, ht, ?_⟩
  unfold tgtOk at tk
  simp only [ht] at tk
  simpa using tk
/-- what a target admits -/
def admK (ks : List Kd) (t : Str) : List Str := if t = "any" then nms ks else (nms ks).filter fun n => decide (n = t) || (match kfind ks n with
  | some k => decide (k.base = some t)
  | none => false)
theorem adm_sub {ks : List Kd} {t m : Str} (h : m ∈ admK ks t) : m ∈ nms ks := by
  unfold admK at h
  split at h
  · exact h
  · exact (List.mem_filter.mp h).1
def stepK (ks : List Kd) (n m : Str) : Bool := match kfind ks n with
  | none => false
  | some k => (gath ks k).any fun f => !decide (f.mode = "mark") && (match f.tgt with
    | some t => decide (m ∈ admK ks t)
    | none => false)
def leadsK (ks : List Kd) (n : Str) : List Str := (nms ks).filter (stepK ks n)
theorem step_sub {ks : List Kd} {n m : Str} (h : stepK ks n m = true) : m ∈ nms ks := by
  unfold stepK at h
  split at h
  · cases h
  · obtain ⟨f, _, hf⟩ := List.any_eq_true.mp h
    rw [Bool.and_eq_true] at hf
    cases ht : f.tgt with
    | none => simp [ht] at hf
    | some t =>
      have := hf.2
      simp only [ht] at this
      exact adm_sub (of_decide_eq_true this)
theorem leads_mem {ks : List Kd} {n m : Str} : m ∈ leadsK ks n ↔ stepK ks n m = true := by
  unfold leadsK
  rw [List.mem_filter]
  exact ⟨fun h => h.2, fun h => ⟨step_sub h, h⟩⟩
inductive Far (ks : List Kd) (n : Str) : Str → Prop
  | one {m : Str} (h : stepK ks n m = true) : Far ks n m
  | more {m r : Str} (h : Far ks n m) (q : stepK ks m r = true) : Far ks n r
theorem far_sub {ks : List Kd} {n m : Str} (h : Far ks n m) : m ∈ nms ks := by
  cases h with
  | one h => exact step_sub h
  | more _ q => exact step_sub q
open Classical in
noncomputable def farK (ks : List Kd) (n : Str) : List Str := (nms ks).filter fun m => decide (Far ks n m)
open Classical in
theorem far_mem {ks : List Kd} {n m : Str} : m ∈ farK ks n ↔ Far ks n m := by
  unfold farK
  rw [List.mem_filter]
  exact ⟨fun h => of_decide_eq_true h.2, fun h => ⟨far_sub h, decide_eq_true h⟩⟩
open Classical in
theorem far_filter {ks : List Kd} {n : Str} {p : Str → Bool} (h : ∀ m, p m = true ↔ Far ks n m) : (nms ks).filter p = farK ks n := by
  unfold farK
  refine List.filter_congr fun m _ => ?_
  by_cases q : Far ks n m
  · rw [(h m).mpr q, decide_eq_true q]
  · rw [decide_eq_false q]
    cases e : p m with
    | false => rfl
    | true => exact absurd ((h m).mp e) q
/-- leads to itself or to one that lets heirs -/
noncomputable def wrongK (ks : List Kd) (n : Str) : Bool := (farK ks n).any fun m => decide (m = n) || (match kfind ks m with
  | some k => k.heirs
  | none => false)
theorem LET_pl : ∀ c ∈ LET, plC c = true := by decide +kernel
theorem CAP_pl : ∀ c ∈ CAP, plC c = true := by decide +kernel
theorem fnS_pl {x : Str} (h : fnS x = true) : plS x = true := by
  simp only [fnS, Bool.and_eq_true] at h
  obtain ⟨c, r, e, h8⟩ := sz8_cons h.1
  have hs : x.cps.size ≤ 20 := by have : x.cps.size ≤ 8 := h8; omega
  simp only [plS, Bool.and_eq_true, decide_eq_true_eq]
  refine ⟨List.all_eq_true.mpr fun c hc => LET_pl c ?_, hs⟩
  have := List.all_eq_true.mp h.2 c hc
  simpa using this
theorem knS_pl {x : Str} (h : knS x = true) : plS x = true := by
  simp only [knS, Bool.and_eq_true] at h
  obtain ⟨c, r, e, h8⟩ := sz8_cons h.1
  have hs : x.cps.size ≤ 20 := by have : x.cps.size ≤ 8 := h8; omega
  simp only [plS, Bool.and_eq_true, decide_eq_true_eq]
  refine ⟨List.all_eq_true.mpr fun y hy => ?_, hs⟩
  have h2 := h.2
  rw [e] at h2 hy
  simp only [capL, Bool.and_eq_true, decide_eq_true_eq] at h2
  rcases List.mem_cons.mp hy with rfl | hy
  · exact CAP_pl _ h2.1
  · have := List.all_eq_true.mp h2.2 y hy
    exact LET_pl _ (by simpa using this)
/-! on the heap -/
structure DAt (K : PySem.W.Frag) (CF : Addr) (ks : List Kd) (d : Addr) (H : Hp) : Prop where
  h : ∃ kvs, H d = some (.dK kvs) ∧ kvs.length ≤ 100 ∧ ∀ n k, kfind ks n = some k → ∃ t xs, valV kvs (.inr n) = some (.ref t) ∧ SqT K H t xs ∧ Paired (fun x f => FAt K CF f x H) xs (gath ks k)
theorem DAt.mono {K : PySem.W.Frag} {CF d : Addr} {ks : List Kd} {H H' : Hp} (x : Ex H H') (h : DAt K CF ks d H) : DAt K CF ks d H' := by
  obtain ⟨kvs, h1, h2, h3⟩ := h.h
  exact ⟨kvs, x _ _ h1, h2, fun n k q => let ⟨t, xs, a, b, c⟩ := h3 n k q; ⟨t, xs, a, ex_t x b, Paired.mapP c fun _ _ z => z.mono x⟩⟩
def MTH : List Str := ["kind_named", "fields_of", "admitted", "leads", "leads_far", "leads_wrongly"]
/-- a house that is being made: its kinds -/
structure HpAt (K : PySem.W.Frag) (CF CK CH : Addr) (ms : List (Kd × V)) (a : Addr) (H : Hp) : Prop where
  ok : HsOk (ms.map Prod.fst)
  at_ : ∃ dx fs e d n, H a = some (.ins CH dx fs) ∧ fs.lookup ("by_name" : Str) = some (.ref e) ∧ fs.lookup ("described" : Str) = some (.ref d) ∧ fs.lookup ("names" : Str) = some (.ref n) ∧ (∀ m ∈ MTH, fs.lookup m = none) ∧ EAt K CF CK ms e H ∧ DAt K CF (ms.map Prod.fst) d H ∧ SqT K H n ((nms (ms.map Prod.fst)).map V.str)
theorem HpAt.mono {K : PySem.W.Frag} {CF CK CH a : Addr} {ms : List (Kd × V)} {H H' : Hp} (x : Ex H H') (h : HpAt K CF CK CH ms a H) : HpAt K CF CK CH ms a H' := by
  obtain ⟨dx, fs, e, d, n, h1, h2, h3, h4, h0, h5, h6, h7⟩ := h.at_
  exact ⟨h.ok, dx, fs, e, d, n, x _ _ h1, h2, h3, h4, h0, h5.mono x, h6.mono x, ex_t x h7⟩
def spKNd (K : PySem.W.Frag) (CF CK CH : Addr) : Sp := fun vs H Q _ => ∃ (a : Addr) (n : Str) (ms : List (Kd × V)) (k : Kd), vs = [.ref a, .str n] ∧ HpAt K CF CK CH ms a H ∧ kfind (ms.map Prod.fst) n = some k ∧ ∀ v H', Ex H H' → KAt K CF CK k v H' → Q v H'
def spFO (K : PySem.W.Frag) (CF CK CH : Addr) : Sp := fun vs H Q _ => ∃ (a : Addr) (n : Str) (ms : List (Kd × V)) (k : Kd), vs = [.ref a, .str n] ∧ HpAt K CF CK CH ms a H ∧ kfind (ms.map Prod.fst) n = some k ∧ ∀ l xs H', H l = none → Ex H H' → H' l = some (.lst xs) → Paired (fun x f => FAt K CF f x H') xs (gath (ms.map Prod.fst) k) → Q (.ref l) H'
def spStrs (K : PySem.W.Frag) (CF CK CH : Addr) (ok : List Kd → Str → Prop) (f : List Kd → Str → List Str) : Sp := fun vs H Q _ => ∃ (a : Addr) (t : Str) (ms : List (Kd × V)), vs = [.ref a, .str t] ∧ HpAt K CF CK CH ms a H ∧ plS t = true ∧ ok (ms.map Prod.fst) t ∧ ∀ l H', H l = none → Ex H H' → H' l = some (.lst ((f (ms.map Prod.fst) t).map V.str)) → Q (.ref l) H'
section
variable {K : PySem.W.Frag} {CF CK CH : Addr} {H : Hp} {σ : L2.St} {to tn : TE} {a : Addr} {n : Str} {ms : List (Kd × V)} {E : XK} {P : V → Hp → Prop}
/-- self.m(name) -/
theorem ex_meth {sp : Sp} {m : Str} (hm : m ∈ MTH) (ho : Ev to σ H (.ref a)) (hn : Ev tn σ H (.str n)) (h : HpAt K CF CK CH ms a H) (hs : ∀ H1, Ex H H1 → ∀ Q : VK, (∀ v H2, Ex H1 H2 → P v H2 → Q v H2) → sp [.ref a, .str n] H1 Q E) : EvX (tMeth CH m sp [] E to (tCons tn tNil)) σ H P := fun H1 e Q q =>
  ho H1 e _ fun H2 e2 => by
    obtain ⟨dx, fs, eb, d, nn, h1, h2, h3, h4, h0, _⟩ := (h.mono (e.trans e2)).at_
    exact ⟨a, dx, fs, rfl, h1, h0 m hm, hn H2 (e.trans e2) _ fun H3 e3 => hs H3 ((e.trans e2).trans e3) _ fun v H4 e4 p => q v H4 ((e2.trans e3).trans e4) p⟩
theorem ex_kn {k : Kd} (ho : Ev to σ H (.ref a)) (hn : Ev tn σ H (.str n)) (h : HpAt K CF CK CH ms a H) (hk : kfind (ms.map Prod.fst) n = some k) : EvX (tMeth CH "kind_named" (spKNd K CF CK CH) [] E to (tCons tn tNil)) σ H (KAt K CF CK k) :=
  ex_meth (by decide +kernel) ho hn h fun H1 e Q q => ⟨a, n, ms, k, rfl, h.mono e, hk, fun v H2 e2 p => q v H2 e2 p⟩
/-- a list of names that is told -/
theorem el_strs {m : Str} {ok : List Kd → Str → Prop} {f : List Kd → Str → List Str} (hm : m ∈ MTH) (ho : Ev to σ H (.ref a)) (hn : Ev tn σ H (.str n)) (h : HpAt K CF CK CH ms a H) (hp : plS n = true) (hk : ok (ms.map Prod.fst) n) : EvL (tMeth CH m (spStrs K CF CK CH ok f) [] E to (tCons tn tNil)) σ H ((f (ms.map Prod.fst) n).map V.str) := fun H1 e Q q =>
  ho H1 e _ fun H2 e2 => by
    obtain ⟨dx, fs, eb, d, nn, h1, h2, h3, h4, h0, _⟩ := (h.mono (e.trans e2)).at_
    exact ⟨a, dx, fs, rfl, h1, h0 m hm, hn H2 (e.trans e2) _ fun H3 e3 => ⟨a, n, ms, rfl, h.mono ((e.trans e2).trans e3), hp, hk, fun l H4 hl e4 h4 => q l H4 (fresh_back (e2.trans e3) hl) ((e2.trans e3).trans e4) h4⟩⟩
/-- a field of what is told -/
theorem ev_fldX {te : TE} {C : Addr} {f : Str} {u : V} (h : EvX te σ H P) (hp : ∀ v H1, P v H1 → ∃ x dx fs, v = .ref x ∧ H1 x = some (.ins C dx fs) ∧ fs.lookup f = some u) (c : Cls K C) (na : NoAttr K C f) : Ev (tFld K te f) σ H u := fun H1 e Q q =>
  h H1 e _ fun v H2 e2 p => by
    obtain ⟨x, dx, fs, rfl, h1, h2⟩ := hp v H2 p
    exact ⟨x, C, dx, fs, u, rfl, h1, c, na, h2, q H2 e2⟩
end
theorem kat_name {K : PySem.W.Frag} {CF CK : Addr} {k : Kd} {v : V} {H : Hp} (h : KAt K CF CK k v H) : ∃ x dx fs, v = .ref x ∧ H x = some (.ins CK dx fs) ∧ fs.lookup ("name" : Str) = some (.str k.name) := let ⟨a, dx, fs, _, _, e, h1, h2, _⟩ := h; ⟨a, dx, fs, e, h1, h2⟩
theorem kat_base {K : PySem.W.Frag} {CF CK : Addr} {k : Kd} {v : V} {H : Hp} (h : KAt K CF CK k v H) : ∃ x dx fs, v = .ref x ∧ H x = some (.ins CK dx fs) ∧ fs.lookup ("base" : Str) = some (oV k.base) := let ⟨a, dx, fs, _, _, e, h1, _, _, h4, _⟩ := h; ⟨a, dx, fs, e, h1, h4⟩
theorem kat_heirs {K : PySem.W.Frag} {CF CK : Addr} {k : Kd} {v : V} {H : Hp} (h : KAt K CF CK k v H) : ∃ x dx fs, v = .ref x ∧ H x = some (.ins CK dx fs) ∧ fs.lookup ("heirs" : Str) = some (.bl k.heirs) := let ⟨a, dx, fs, _, _, e, h1, _, _, _, _, h6, _⟩ := h; ⟨a, dx, fs, e, h1, h6⟩
def okT (ks : List Kd) (t : Str) : Prop := t = "any" ∨ ∃ k, kfind ks t = some k
def okN (ks : List Kd) (t : Str) : Prop := ∃ k, kfind ks t = some k
section
variable {P : Program} {w : World} {K : PySem.W.Frag} {mg : Str → Option Value} {base : Heap}
theorem ok_House_kind_named (T : Txt P K mg) : FnOk P w K mg base CX0 3 T.f_House_kind_named T.d_House_kind_named P_House_kind_named (spKNd K T.C_Field T.C_Kind T.C_House) := by
  have G_is_kind_name := ok_is_kind_name (P := P) (w := w) (base := base) T
  have G_UnknownKind_init := ok_UnknownKind_init (P := P) (w := w) (base := base) T
  have G_UnknownKind_init := ok_UnknownKind_init (P := P) (w := w) (base := base) T
  refine T.F_House_kind_named.ok sc_House_kind_named (fun vs H Q E h => ?_) (fun cdv A outer s H vs Q E hr h => ?_)
  · obtain ⟨a, n, ms, k, rfl, _⟩ := h
    rfl
  · obtain ⟨a, n, ms, k, rfl, hh, hk, kont⟩ := h
    refine ⟨_, (pss_cons (ps_if (PW.pt (pw_or (pt_not (pt_val (pe_call G_is_kind_name hr (by rfl) T.g_is_kind_name T.F_is_kind_name.kp T.B_is_kind_name .nil pass0 (pa_cons (pv 1) pa_nil)))) (pw_or1 (pt_cmp (pc_dnotin (hu_of hr) (pv 1) (pe_fld (pv 0) rfl)) (by rfl))))) (pss_one (ps_raise rfl Way.takes0 (pmk_oex T.X_UnknownKind.oex T.i_UnknownKind T.t_UnknownKind G_UnknownKind_init (hr.mono (by decide)) T.B_UnknownKind_init .nil pass0 (by rfl) T.g_UnknownKind (pa_cons (pv 1) pa_nil)))) pss_nil)
      (pss_one (ps_ret (pe_dget (hu_of hr) (pe_fld (pv 0) rfl) (pv 1) (fun _ _ => rfl))))), ?_⟩
    obtain ⟨dx, fs, e, d, nn, h1, h2, h3, h4, h0, h5, h6, h7⟩ := id hh.at_
    obtain ⟨v, hv, hkv, _, hn⟩ := h5.find hk
    have kn := (hh.ok.g k (kfind_some hk).1).n
    rw [hn] at kn
    have pn : PV K H (.str n) (.str n) := .dp (.str n) (knS_pl kn)
    refine q_when (b := false) (et_is (et_or (a := false) (b := false) (et_not (a := true) (et_B (ev_is (ev_b1 (ev_var rfl) pn) (congrArg V.bl kn)))) fun _ => et_B (ev_is (ev_dnotin (ev_var rfl) (ev_fld (ev_var rfl) h1 T.cl_House T.na_House_by_name h2) h5.h) (by rw [hv]; rfl))) rfl) (fun z => nomatch z) (fun _ H1 X1 => ?_)
    exact s_ret (ev_dgetK (ev_fld (ev_var rfl) (X1 _ _ h1) T.cl_House T.na_House_by_name h2) (ev_var rfl) (X1 _ _ h5.h) hv) fun H2 X2 => kont v H2 (X1.trans X2) (hkv.mono (X1.trans X2))
theorem ok_House_fields_of (T : Txt P K mg) : FnOk P w K mg base CX0 4 T.f_House_fields_of T.d_House_fields_of P_House_fields_of (spFO K T.C_Field T.C_Kind T.C_House) := by
  have G_House_kind_named := ok_House_kind_named (P := P) (w := w) (base := base) T
  refine T.F_House_fields_of.ok sc_House_fields_of (fun vs H Q E h => ?_) (fun cdv A outer s H vs Q E hr h => ?_)
  · obtain ⟨a, n, ms, k, rfl, _⟩ := h
    rfl
  · obtain ⟨a, n, ms, k, rfl, hh, hk, kont⟩ := h
    refine ⟨_, (pss_one (ps_ret (pe_callTy call_list_of (by rfl) T.b_list (by decide +kernel) (pa_cons (pe_dget (hu_of hr) (pe_fld (pv 0) rfl) (pe_fld (pe_meth (pv 0) T.cl_House T.m_House_kind_named G_House_kind_named (hr.mono (by decide)) T.B_House_kind_named .nil pass0 (pa_cons (pv 1) pa_nil)) rfl) (fun _ _ => rfl)) pa_nil)))), ?_⟩
    obtain ⟨dx, fs, e, d, nn, h1, h2, h3, h4, h0, h5, h6, h7⟩ := id hh.at_
    obtain ⟨kvs, d1, d2, d3⟩ := h6.h
    obtain ⟨t, xs, e1, e2, e3⟩ := d3 n k hk
    have hn := (kfind_some hk).2
    refine s_retL (el_listN (K := K) (ev_dgetK (ev_fld (ev_var rfl) h1 T.cl_House T.na_House_described h3) (ev_is (ev_fldX (ex_kn (ev_var rfl) (ev_var rfl) hh hk) (fun v H1 p => kat_name p) T.cl_Kind T.na_Kind_name) (by rw [hn])) d1 e1) (.inr e2)) fun l H1 hl X1 h1' => kont l xs H1 hl X1 h1' (Paired.mapP e3 fun _ _ z => z.mono X1)
theorem ok_House_admitted (T : Txt P K mg) : FnOk P w K mg base CX0 4 T.f_House_admitted T.d_House_admitted P_House_admitted (spStrs K T.C_Field T.C_Kind T.C_House okT admK) := by
  have G_House_kind_named := ok_House_kind_named (P := P) (w := w) (base := base) T
  refine T.F_House_admitted.ok sc_House_admitted (fun vs H Q E h => ?_) (fun cdv A outer s H vs Q E hr h => ?_)
  · obtain ⟨a, t, ms, rfl, _⟩ := h
    rfl
  · obtain ⟨a, t, ms, rfl, hh, hp, hk, kont⟩ := h
    refine ⟨_, (pss_cons (ps_if (PW.pt (pw_and (pt_val (pe_callB call_isi (by rfl) T.b_isinstance (by decide +kernel) (pa_cons (pv 1) (pa_cons (pe_bltn (v := .ty "str") (by rfl) T.b_str (by decide +kernel) rfl) pa_nil)))) (pw_and1 (pt_cmpR op_eq (pv 1) (pe_glob (v := .str "any") (by rfl) T.g_ANY ⟨_, rfl⟩) (nomark _))))) (pss_one (ps_ret (pe_callTy call_list_of (by rfl) T.b_list (by decide +kernel) (pa_cons (pe_fld (pv 0) rfl) pa_nil)))) pss_nil)
      (pss_cons (ps_set (i := 2) sc_House_admitted.nd rfl (Or.inr rfl) (pe_fld (pe_meth (pv 0) T.cl_House T.m_House_kind_named G_House_kind_named (hr.mono (by decide)) T.B_House_kind_named .nil pass0 (pa_cons (pv 1) pa_nil)) rfl))
      (pss_one (ps_ret (pe_lc (own := [("name", 3)]) (g := gName 3) (by rfl) sc_House_admitted.nd (pi_tup (pe_fld (pv 0) rfl)) (blkOk_by (own := [("name", 3)]) (N := N_House_admitted) (sc := defScope s_House_admitted) (by decide +kernel)) (fun _ _ _ _ _ => (pg_name (i := 3) sc_House_admitted.nd rfl (Or.inl rfl))) (fun _ _ _ _ _ => (pts_one (PW.pt (pw_or (pt_cmpR op_eq (pv 3) (pv 2) (nomark _)) (pw_or1 (pt_cmpR op_eq (Way.kk_fld (K := K) (pe_dget (hu_of hr) (Way.kk_fld (K := K) (pv 0) rfl) (pv 3) (fun _ _ => rfl)) rfl) (pv 2) (nomark _))))))) (fun _ _ _ _ _ => (pv 3))))))), ?_⟩
    obtain ⟨dx, fs, e, d, nn, h1, h2, h3, h4, h0, h5, h6, h7⟩ := id hh.at_
    have pt : PV K H (.str t) (.str t) := .dp (.str t) hp
    refine q_when (b := decide (t = "any")) (et_is (et_and (a := true) (et_B (ev_isd (ev_var rfl) pt kd_str)) fun _ => et_test (ev_op (ev_var rfl) ev_c (rv_eq rfl))) (by simp)) (fun q H1 X1 => ?_) (fun q H1 X1 => ?_)
    · have e : admK (ms.map Prod.fst) t = nms (ms.map Prod.fst) := by unfold admK; rw [if_pos (of_decide_eq_true q)]
      rw [e] at kont
      exact s_retL (el_listN (K := K) (ev_fld (ev_var rfl) (X1 _ _ h1) T.cl_House T.na_House_names h4) (.inr (ex_t X1 h7))) fun l H2 hl X2 h2' => kont l H2 (fresh_back X1 hl) (X1.trans X2) h2'
    · have nq : ¬ t = "any" := of_decide_eq_false q
      have e : admK (ms.map Prod.fst) t = (nms (ms.map Prod.fst)).filter fun n => decide (n = t) || (match kfind (ms.map Prod.fst) n with
          | some k => decide (k.base = some t)
          | none => false) := by unfold admK; rw [if_neg nq]
      rw [e] at kont
      obtain ⟨k, hk⟩ := hk.resolve_left nq
      have hn := (kfind_some hk).2
      have hh1 := hh.mono X1
      refine q_asg (v := .str t) (ev_is (ev_fldX (ex_kn (ev_var rfl) (ev_var rfl) hh1 hk) (fun v H1 p => kat_name p) T.cl_Kind T.na_Kind_name) (by rw [hn])) fun H2 X2 => ?_
      have X12 := X1.trans X2
      refine s_retL (xs := ((nms (ms.map Prod.fst)).filter fun n => decide (n = t) || (match kfind (ms.map Prod.fst) n with
          | some k => decide (k.base = some t)
          | none => false)).map V.str) ?_ fun l H3 hl X3 h3' => kont l H3 (fresh_back X12 hl) (X12.trans X3) h3'
      refine el_fltS (K := K) (ev_fld (ev_var rfl) (X12 _ _ h1) T.cl_House T.na_House_names h4) (ex_t X12 h7) (by have := hh.ok.len; unfold nms; rw [List.length_map]; omega) (by show 3 < 4; decide) (fun _ => rfl) fun n H3 X3 hn' => ?_
      obtain ⟨kn, hkn⟩ := kfind_in hn'
      obtain ⟨v, hv, hkv, _, _⟩ := h5.find hkn
      obtain ⟨x, dx', fs', rfl, g1, g2⟩ := kat_base (hkv.mono (X12.trans X3))
      refine et_is (et_or (et_test (ev_op (ev_var rfl) (ev_var rfl) (rv_eq rfl))) fun _ => et_test (ev_op (ev_fld (ev_dgetK (ev_fld (ev_var rfl) ((X12.trans X3) _ _ h1) T.cl_House T.na_House_by_name h2) (ev_var rfl) ((X12.trans X3) _ _ h5.h) hv) g1 T.cl_Kind T.na_Kind_base g2) (ev_var rfl) (rv_eq ?_))) ?_
      · cases kn.base <;> rfl
      · simp only [hkn]
        congr 1
        · simp
        · cases kn.base <;> simp [oV]
end
end K03

namespace K03
open PySem L2 Way Evl
/-! names that are met -/
def MetAt (H : Hp) (me : Addr) (M : List Str) : Prop := ∃ kvs, H me = some (.dK kvs) ∧ kvs.length ≤ M.length ∧ ∀ n, (valV kvs (.inr n)).isSome = decide (n ∈ M)
theorem MetAt.mono {H H' : Hp} {me : Addr} {M : List Str} (e : Ex H H') (h : MetAt H me M) : MetAt H' me M := let ⟨kvs, h1, h2⟩ := h; ⟨kvs, e _ _ h1, h2⟩
theorem met_nil {H : Hp} {me : Addr} : MetAt (upd H me (.dK [])) me [] := ⟨[], upd_same, Nat.le_refl _, fun n => rfl⟩
theorem met_put {H : Hp} {me : Addr} {M : List Str} {kvs : List (Key × V)} {n : Str} {v : V} (h2 : kvs.length ≤ M.length) (h3 : ∀ n, (valV kvs (.inr n)).isSome = decide (n ∈ M)) : MetAt (upd H me (.dK (putK kvs (.inr n) v))) me (M ++ [n]) := by
  refine ⟨_, upd_same, ?_, fun m => ?_⟩
  · have : (putK kvs (.inr n) v).length ≤ kvs.length + 1 := by
      unfold putK
      split
      · rw [List.length_map]; omega
      · rw [List.length_append]; exact Nat.le_refl _
    rw [List.length_append]
    simp only [List.length_singleton]
    omega
  · rw [valV_put]
    by_cases e : m = n
    · subst e
      rw [if_pos rfl, decide_eq_true (by simp)]; rfl
    · rw [if_neg (kne e), h3]
      exact decide_eq_decide.mpr ⟨fun z => List.mem_append_left _ z, fun z => (List.mem_append.mp z).elim id fun q => absurd (List.mem_singleton.mp q) e⟩
section
variable {K : PySem.W.Frag} {H : Hp} {σ : L2.St} {ty td tl te ta : TE} {D : Ends} {tz tu : TS} {g : TG}
theorem ev_met {me : Addr} {M : List Str} {n : Str} (h1 : Ev ty σ H (.str n)) (h2 : Ev td σ H (.ref me)) (h : MetAt H me M) : Ev (tDIn ty td) σ H (.bl (decide (n ∈ M))) := by
  obtain ⟨kvs, a, _, b⟩ := h
  exact ev_is (ev_din h1 h2 a) (by rw [b])
theorem ev_nmet {me : Addr} {M : List Str} {n : Str} (h1 : Ev ty σ H (.str n)) (h2 : Ev td σ H (.ref me)) (h : MetAt H me M) : Ev (tDNotIn ty td) σ H (.bl (!decide (n ∈ M))) := by
  obtain ⟨kvs, a, _, b⟩ := h
  exact ev_is (ev_dnotin h1 h2 a) (by rw [b])
theorem q_seqL (h : tl σ H fun v H1 => tSeq (tFor (iList K (tC v)) g tu) tz D σ H1) : tSeq (tFor (iList K tl) g tu) tz D σ H := h
theorem q_extL {l : Addr} {xs ys : List V} (hl : H l = some (.lst xs)) (ha : Ev ta σ H (.ref l)) (h : EvL te σ H ys) (hz : xs.length + ys.length ≤ 100000) (k : ∀ H1, Ex H H1 → D.nx σ (upd H1 l (.lst (xs ++ ys)))) :
    tDrop (tBM K "list" rExtend ta (tCons te tNil)) D σ H := ha H (Ex.refl H) _ fun H1 e1 => ⟨Or.inl ⟨rfl, xs, sq_of (e1 _ _ hl)⟩, h H1 e1 _ fun p H2 _ e2 hp => ⟨l, p, xs, ys, rfl, rfl, (e1.trans e2) _ _ hl, hp, sz_of hz, k H2 (e1.trans e2)⟩⟩
theorem el_mapSN {ns : List Str} {j : Nat} {vs : List Nat} {w : Str → V} (h : EvL tl σ H (ns.map V.str)) (hz : ns.length ≤ 40000) (hw : ∀ x, wipe ((wipe σ vs).set j (some x)) vs = wipe σ vs)
    (he : ∀ n H1, Ex H H1 → n ∈ ns → Ev te ((wipe σ vs).set j (some (.str n))) H1 (w n)) : EvL (tLc (iList K tl) (gName j) tYes te vs) σ H (ns.map w) := by
  have eq : given (ns.map V.str).length (fun _ => true) (fun i => (ns[i]?.map w).getD .non) = ns.map w := by
    unfold given
    rw [List.filter_eq_self.mpr fun _ _ => rfl, List.length_map]
    refine List.ext_getElem? fun i => ?_
    rw [List.getElem?_map, List.getElem?_map]
    by_cases hi : i < ns.length
    · rw [List.getElem?_range hi, List.getElem?_eq_getElem hi]
      show some ((Option.map w ns[i]?).getD V.non) = some (w ns[i])
      rw [List.getElem?_eq_getElem hi]; rfl
    · rw [List.getElem?_eq_none (by simpa using Nat.le_of_not_lt hi), List.getElem?_eq_none (Nat.le_of_not_lt hi)]; rfl
  rw [← eq]
  refine el_lcNL (K := K) (fun _ => true) (fun i => (ns[i]?.map w).getD .non) h (by rw [List.length_map]; exact hz) hw (fun i x H2 e2 hi => fun H3 e3 Q q => q H3 (Ex.refl H3)) (fun i x H2 e2 hi _ => ?_)
  rw [List.getElem?_map] at hi
  cases q : ns[i]? with
  | none => rw [q] at hi; cases hi
  | some n =>
    rw [q] at hi
    cases hi
    exact he n H2 e2 (List.mem_of_getElem? q)
end
theorem nod_le : ∀ {l m : List Str}, l.Nodup → (∀ x ∈ l, x ∈ m) → l.length ≤ m.length
  | [], _, _, _ => Nat.zero_le _
  | a :: r, m, nd, s => by
    rw [List.nodup_cons] at nd
    have ha := s a (List.mem_cons_self ..)
    have h1 : r.length ≤ (m.erase a).length := nod_le nd.2 fun x hx => by
      have hne : x ≠ a := fun e => nd.1 (by rw [← e]; exact hx)
      exact (List.mem_erase_of_ne hne).mpr (s x (List.mem_cons_of_mem _ hx))
    rw [List.length_erase_of_mem ha] at h1
    have := List.length_pos_of_mem ha
    rw [List.length_cons]
    omega
def leadF (ks : List Kd) (f : Fd) (m : Str) : Prop := f.mode ≠ "mark" ∧ ∃ t, f.tgt = some t ∧ m ∈ admK ks t
theorem step_iff {ks : List Kd} {n m : Str} {k : Kd} (h : kfind ks n = some k) : stepK ks n m = true ↔ ∃ f ∈ gath ks k, leadF ks f m := by
  unfold stepK leadF
  simp only [h, List.any_eq_true, Bool.and_eq_true]
  refine ⟨fun ⟨f, hf, h1, h2⟩ => ⟨f, hf, by simpa using h1, ?_⟩, fun ⟨f, hf, h1, t, ht, h2⟩ => ⟨f, hf, by simpa using h1, ?_⟩⟩
  · cases ht : f.tgt with
    | none => simp [ht] at h2
    | some t =>
      simp only [ht] at h2
      exact ⟨t, rfl, of_decide_eq_true h2⟩
  · simp only [ht]
    exact decide_eq_true h2
theorem adm_len {ks : List Kd} {t : Str} (h : ks.length ≤ 12) : (admK ks t).length ≤ 12 := by
  have hl : (nms ks).length = ks.length := by unfold nms; rw [List.length_map]
  unfold admK
  split
  · omega
  · exact Nat.le_trans (List.length_filter_le _ _) (by omega)
theorem gath_len' {ks : List Kd} (h : HsOk ks) {k : Kd} (hk : k ∈ ks) : (gath ks k).length ≤ 20 := by
  unfold gath baseFs
  rw [List.length_append]
  have hk1 := (h.g k hk).l
  cases hb : k.base with
  | none => simp; omega
  | some b =>
    cases q : kfind ks b with
    | none => simp [q]; omega
    | some k' =>
      have := (h.g k' (kfind_some q).1).l
      simp only [q]
      omega
theorem any_pl : plS "any" = true := by decide +kernel
theorem nms_pl {ks : List Kd} (h : HsOk ks) {n : Str} (hn : n ∈ nms ks) : plS n = true := by
  obtain ⟨k, hk, rfl⟩ := List.mem_map.mp hn
  exact knS_pl (h.g k hk).n
def spWr (K : PySem.W.Frag) (CF CK CH : Addr) : Sp := fun vs H Q _ => ∃ (a : Addr) (n : Str) (ms : List (Kd × V)), vs = [.ref a, .str n] ∧ HpAt K CF CK CH ms a H ∧ plS n = true ∧ okN (ms.map Prod.fst) n ∧ ∀ H', Ex H H' → Q (.bl (wrongK (ms.map Prod.fst) n)) H'
def inNames (ks : List Kd) : PyData → Bool
  | .str x => decide (x ∈ nms ks)
  | _ => false
def spCo (K : PySem.W.Frag) (CF CK CH : Addr) : Sp := fun vs H Q _ => ∃ (a : Addr) (v : V) (d : PyData) (ms : List (Kd × V)), vs = [.ref a, v] ∧ HpAt K CF CK CH ms a H ∧ PV K H v d ∧ ∀ H', Ex H H' → Q (.bl (inNames (ms.map Prod.fst) d)) H'
def spHl (K : PySem.W.Frag) (CF CK CH : Addr) : Sp := fun vs H Q _ => ∃ (a : Addr) (ms : List (Kd × V)), vs = [.ref a] ∧ HpAt K CF CK CH ms a H ∧ ∀ H', Ex H H' → Q (.int (ms.length : Int)) H'
section
variable {P : Program} {w : World} {K : PySem.W.Frag} {mg : Str → Option Value} {base : Heap}
theorem ok_House_leads (T : Txt P K mg) : FnOk P w K mg base CX0 5 T.f_House_leads T.d_House_leads P_House_leads (spStrs K T.C_Field T.C_Kind T.C_House okN leadsK) := by
  have G_House_fields_of := ok_House_fields_of (P := P) (w := w) (base := base) T
  have G_House_admitted := ok_House_admitted (P := P) (w := w) (base := base) T
  refine T.F_House_leads.ok sc_House_leads (fun vs H Q E h => ?_) (fun cdv A outer s H vs Q E hr h => ?_)
  · obtain ⟨a, n, ms, rfl, _⟩ := h
    rfl
  · obtain ⟨a, n, ms, rfl, hh, hp, ⟨k, hk⟩, kont⟩ := h
    refine ⟨_, (pss_cons (ps_set (i := 2) sc_House_leads.nd rfl (Or.inr rfl) pe_dnewK)
      (pss_cons (ps_for PassesOwn.never rfl (pi_list (pe_meth (pv 0) T.cl_House T.m_House_fields_of G_House_fields_of (hr.mono (by decide)) T.B_House_fields_of .nil pass0 (pa_cons (pv 1) pa_nil))) (pg_name (i := 3) sc_House_leads.nd rfl (Or.inl rfl)) (pss_one (ps_if (pt_cmpR op_ne (pe_fld (pv 3) rfl) pe_str (nomark _)) (pss_one (ps_for PassesOwn.never rfl (pi_list (pe_meth (pv 0) T.cl_House T.m_House_admitted G_House_admitted (hr.mono (by decide)) T.B_House_admitted .nil pass0 (pa_cons (pe_fld (pv 3) rfl) pa_nil))) (pg_name (i := 4) sc_House_leads.nd rfl (Or.inl rfl)) (pss_one (ps_asg pe_bl (pg_sub (pv 2) (pv 4) (set_dict (hu_of hr))))))) pss_nil)))
      (pss_one (ps_ret (pe_lc (own := [("name", 4)]) (g := gName 4) (by rfl) sc_House_leads.nd (pi_tup (pe_fld (pv 0) rfl)) (blkOk_by (own := [("name", 4)]) (N := N_House_leads) (sc := defScope s_House_leads) (by decide +kernel)) (fun _ _ _ _ _ => (pg_name (i := 4) sc_House_leads.nd rfl (Or.inl rfl))) (fun _ _ _ _ _ => (pts_one (pt_cmp (pc_din (hu_of hr) (pv 4) (pv 2)) (by rfl)))) (fun _ _ _ _ _ => (pv 4))))))), ?_⟩
    refine q_any fun me hme => ?_
    have X1 : Ex H (upd H me (.dK [])) := Ex.new hme
    have hh1 := hh.mono X1
    have hkin := (kfind_some hk).1
    refine q_seqL ?_
    obtain ⟨dx, fs, e, d, nn, h1, h2, h3, h4, h0, h5, h6, h7⟩ := id hh.at_
    refine ⟨_, rfl, a, dx, fs, rfl, X1 _ _ h1, h0 _ (by decide +kernel), ⟨_, rfl, a, n, ms, k, rfl, hh1, hk, fun fl xs H2 hfl X2 h2l hpx => ?_⟩⟩
    have X12 := X1.trans X2
    have hfl0 : H fl = none := fresh_back X1 hfl
    have nme : fl ≠ me := fun z => by rw [z, upd_same] at hfl; cases hfl
    have gl := gath_len' hh.ok hkin
    have lx : xs.length = (gath (ms.map Prod.fst) k).length := Paired.length hpx
    have hgood := fun f hf hm => gath_good hh.ok hkin (f := f) hf hm
    have hst := fun m => step_iff (m := m) hk
    revert hgood hst gl lx hpx
    generalize hgs : gath (ms.map Prod.fst) k = gs
    intro hpx gl lx hgood hst
    refine q_forL (K := K) ev_c (sq_of h2l) (fun i σ' H' => ∃ vf vn M, σ' = [some (.ref a), some (.str n), some (.ref me), vf, vn] ∧ Ex H H' ∧ H' fl = some (.lst xs) ∧ Paired (fun x f => FAt K T.C_Field f x H') xs gs ∧ MetAt H' me M ∧ M.length ≤ 12 * i ∧ ∀ m, m ∈ M ↔ ∃ j f, j < i ∧ gs[j]? = some f ∧ leadF (ms.map Prod.fst) f m) (fun H3 X3 => ⟨none, none, [], rfl, X12.trans X3, X3 _ _ h2l, Paired.mapP hpx fun _ _ z => z.mono X3, met_nil.mono (X2.trans X3), Nat.le_refl _, fun m => ⟨fun z => (by cases z), fun ⟨j, f, z, _⟩ => absurd z (Nat.not_lt_zero _)⟩⟩) (fun i σ' H' _ ⟨_, _, _, _, _, z, _⟩ => sq_of z) ?_ ?_
    · rintro i x σ' H3 hx ⟨vf, vn, M, rfl, X3, h3l, hp3, hM, lM, iM⟩
      obtain ⟨f, hf, hfx⟩ := pr_at hp3 hx
      have hfm := List.mem_of_getElem? hf
      obtain ⟨xa, dx', fs', wt, rfl, g1, g2, g3, g4, g5⟩ := id hfx
      have hil : i < gs.length := (List.getElem?_eq_some_iff.mp hf).1
      refine s_when (b := !decide (f.mode = "mark")) (et_is (et_test (ev_op (ev_fld (ev_var rfl) g1 T.cl_Field T.na_Field_mode g3) ev_c (rv_ne rfl))) (by simp)) (fun q H4 X4 => ?_) (fun q H4 X4 => ?_)
      · have qm : f.mode ≠ "mark" := by simpa using q
        obtain ⟨t, ht, hto⟩ := hgood f hfm qm
        rw [ht] at g4
        have X04 := X3.trans X4
        have hh4 := hh.mono X04
        have tp : plS t = true := hto.elim (fun e => by rw [e]; exact any_pl) (nms_pl hh.ok)
        have tok : okT (ms.map Prod.fst) t := hto.elim .inl fun z => .inr (kfind_in z)
        have la := adm_len (ks := ms.map Prod.fst) (t := t) hh.ok.len
        have lead_t : ∀ m, leadF (ms.map Prod.fst) f m ↔ m ∈ admK (ms.map Prod.fst) t := fun m => ⟨fun ⟨_, t', e, z⟩ => by rw [ht] at e; cases e; exact z, fun z => ⟨qm, t, ht, z⟩⟩
        refine s_forNL (K := K) (el_strs (by decide +kernel) (ev_var rfl) (ev_fld (ev_var rfl) (X4 _ _ g1) T.cl_Field T.na_Field_target g4) hh4 tp tok) (fun p j σ' H' => ∃ vn', σ' = [some (.ref a), some (.str n), some (.ref me), some (.ref xa), vn'] ∧ Ex H H' ∧ H' fl = some (.lst xs) ∧ Paired (fun x f => FAt K T.C_Field f x H') xs gs ∧ H' p = some (.lst ((admK (ms.map Prod.fst) t).map V.str)) ∧ p ≠ me ∧ MetAt H' me (M ++ (admK (ms.map Prod.fst) t).take j)) (fun p H5 hp5 X5 h5p => ?_) (fun p j σ' H' _ ⟨_, _, _, _, _, z, _⟩ => sq_of z) ?_ ?_
        · refine ⟨vn, rfl, X04.trans X5, (X4.trans X5) _ _ h3l, Paired.mapP hp3 fun _ _ z => z.mono (X4.trans X5), h5p, fun z => ?_, by rw [List.take_zero, List.append_nil]; exact hM.mono (X4.trans X5)⟩
          obtain ⟨kvs, hkv, _⟩ := hM.mono X4
          rw [z, hkv] at hp5; cases hp5
        · rintro p j x σ' H5 hx5 ⟨vn', rfl, X5, h5l, hp5, h5p, npm, ⟨kvs, m1, m2, m3⟩⟩
          rw [List.getElem?_map] at hx5
          cases hn5 : (admK (ms.map Prod.fst) t)[j]? with
          | none => rw [hn5] at hx5; cases hx5
          | some nj =>
            rw [hn5] at hx5
            cases hx5
            have tk : M ++ (admK (ms.map Prod.fst) t).take (j + 1) = M ++ (admK (ms.map Prod.fst) t).take j ++ [nj] := by rw [List.take_add_one, hn5, List.append_assoc]; rfl
            have hj : j < (admK (ms.map Prod.fst) t).length := (List.getElem?_eq_some_iff.mp hn5).1
            have lt : ((admK (ms.map Prod.fst) t).take j).length ≤ j := List.length_take_le _ _
            rw [List.length_append] at m2
            refine s_dput m1 ev_c (ev_var rfl) (ev_var rfl) (by omega) fun H6 X6 => ?_
            have m16 := X6 _ _ m1
            have KI : KpI K H6 (upd H6 me (.dK (putK kvs (.inr nj) (.bl true)))) := kpi_dK m16 (Kp.set (Kp.refl _ _))
            refine ⟨_, rfl, Ex.mut (X5.trans X6) hme, (upd_ne nme).trans (X6 _ _ h5l), Paired.mapP hp5 fun _ _ z => (z.mono X6).keep KI, (upd_ne npm).trans (X6 _ _ h5p), npm, ?_⟩
            rw [tk]
            exact met_put (by rw [List.length_append]; omega) m3
        · rintro p σ' H5 ⟨vn', rfl, X5, h5l, hp5, h5p, npm, hM5⟩
          rw [List.length_map, List.take_length] at hM5
          refine ⟨_, _, _, rfl, X5, h5l, hp5, hM5, by rw [List.length_append]; omega, fun m => ?_⟩
          rw [List.mem_append, iM m, ← lead_t m]
          constructor
          · rintro (⟨j, f', hj, a1, a2⟩ | z)
            · exact ⟨j, f', by omega, a1, a2⟩
            · exact ⟨i, f, by omega, hf, z⟩
          · rintro ⟨j, f', hj, a1, a2⟩
            by_cases e : j = i
            · subst e
              rw [hf] at a1
              cases a1
              exact .inr a2
            · exact .inl ⟨j, f', by omega, a1, a2⟩
      · have qm : f.mode = "mark" := by simpa using q
        refine ⟨_, _, M, rfl, X3.trans X4, X4 _ _ h3l, Paired.mapP hp3 fun _ _ z => z.mono X4, hM.mono X4, by omega, fun m => ?_⟩
        rw [iM m]
        constructor
        · rintro ⟨j, f', hj, a1, a2⟩
          exact ⟨j, f', by omega, a1, a2⟩
        · rintro ⟨j, f', hj, a1, a2⟩
          by_cases e : j = i
          · subst e
            rw [hf] at a1
            cases a1
            exact absurd qm a2.1
          · exact ⟨j, f', by omega, a1, a2⟩
    · rintro σ' H3 ⟨vf, vn, M, rfl, X3, h3l, hp3, hM, lM, iM⟩
      rw [lx] at iM
      have eM : ∀ m, decide (m ∈ M) = stepK (ms.map Prod.fst) n m := fun m => by
        rw [Bool.eq_iff_iff, decide_eq_true_eq, iM m, hst m]
        constructor
        · rintro ⟨j, f, _, a1, a2⟩
          exact ⟨f, List.mem_of_getElem? a1, a2⟩
        · rintro ⟨f, a1, a2⟩
          obtain ⟨j, hj⟩ := List.getElem?_of_mem a1
          exact ⟨j, f, (List.getElem?_eq_some_iff.mp hj).1, hj, a2⟩
      refine s_retL (el_fltS (K := K) (g := stepK (ms.map Prod.fst) n) (ev_fld (ev_var rfl) (X3 _ _ h1) T.cl_House T.na_House_names h4) (ex_t X3 h7) (by have := hh.ok.len; unfold nms; rw [List.length_map]; omega) (by show 4 < 5; decide) (fun _ => rfl) fun m H4 X4 hm => et_is (et_B (ev_met (ev_var rfl) (ev_var rfl) (hM.mono X4))) (eM m)) fun l H4 hl X4 h4' => kont l H4 (fresh_back X3 hl) (X3.trans X4) h4'
theorem ok_House_leads_far (T : Txt P K mg) : FnOk P w K mg base CX0 6 T.f_House_leads_far T.d_House_leads_far P_House_leads_far (spStrs K T.C_Field T.C_Kind T.C_House okN farK) := by
  have G_House_leads := ok_House_leads (P := P) (w := w) (base := base) T
  refine T.F_House_leads_far.ok sc_House_leads_far (fun vs H Q E h => ?_) (fun cdv A outer s H vs Q E hr h => ?_)
  · obtain ⟨a, n, ms, rfl, _⟩ := h
    rfl
  · obtain ⟨a, n, ms, rfl, hh, hp, hk, kont⟩ := h
    refine ⟨_, (pss_cons (ps_set (i := 2) sc_House_leads_far.nd rfl (Or.inr rfl) pe_dnewK)
      (pss_cons (ps_set (i := 3) sc_House_leads_far.nd rfl (Or.inl rfl) (pe_meth (pv 0) T.cl_House T.m_House_leads G_House_leads (hr.mono (by decide)) T.B_House_leads .nil pass0 (pa_cons (pv 1) pa_nil)))
      (pss_cons (ps_while PassesOwn.never (Way.kk_truth (K := K) (pv 3)) (pss_cons (ps_set (i := 4) sc_House_leads_far.nd rfl (Or.inl rfl) (pe_bm0 PySem.F.plainAttrs_list PySem.F.slot_list_pop PySem.F.type_list_pop mt_pop (pv 3)))
      (pss_one (ps_if (pt_cmp (pc_dnotin (hu_of hr) (pv 4) (pv 2)) (by rfl)) (pss_cons (ps_asg pe_bl (pg_sub (pv 2) (pv 4) (set_dict (hu_of hr))))
      (pss_one (ps_expr (pe_bm PySem.F.plainAttrs_list PySem.F.slot_list_extend PySem.F.type_list_extend mt_extend (pv 3) (pa_cons (pe_meth (pv 0) T.cl_House T.m_House_leads G_House_leads (hr.mono (by decide)) T.B_House_leads .nil pass0 (pa_cons (pv 4) pa_nil)) pa_nil))))) pss_nil))))
      (pss_one (ps_ret (pe_lc (own := [("name", 4)]) (g := gName 4) (by rfl) sc_House_leads_far.nd (pi_tup (pe_fld (pv 0) rfl)) (blkOk_by (own := [("name", 4)]) (N := N_House_leads_far) (sc := defScope s_House_leads_far) (by decide +kernel)) (fun _ _ _ _ _ => (pg_name (i := 4) sc_House_leads_far.nd rfl (Or.inl rfl))) (fun _ _ _ _ _ => (pts_one (pt_cmp (pc_din (hu_of hr) (pv 4) (pv 2)) (by rfl)))) (fun _ _ _ _ _ => (pv 4)))))))), ?_⟩
    obtain ⟨dx, fs, e, d, nn, h1, h2, h3, h4, h0, h5, h6, h7⟩ := id hh.at_
    refine q_any fun me hme => ?_
    have X1 : Ex H (upd H me (.dK [])) := Ex.new hme
    refine q_asgL (el_strs (by decide +kernel) (ev_var rfl) (ev_var rfl) (hh.mono X1) hp hk) fun wl H2 hwl X2 h2w => ?_
    have X12 := X1.trans X2
    have hwl0 : H wl = none := fresh_back X1 hwl
    have nwm : wl ≠ me := fun z => by rw [z, upd_same] at hwl; cases hwl
    have N12 : (nms (ms.map Prod.fst)).length ≤ 12 := by have := hh.ok.len; unfold nms; rw [List.length_map]; exact this
    have ll : ∀ x, (leadsK (ms.map Prod.fst) x).length ≤ (nms (ms.map Prod.fst)).length := fun x => List.length_filter_le _ _
    have okS : ∀ x, x ∈ nms (ms.map Prod.fst) → okN (ms.map Prod.fst) x := fun x hx => kfind_in hx
    have plx := fun x => nms_pl hh.ok (n := x)
    refine q_while (fun m σ' H' => ∃ (vn : Option V) (M ws : List Str), σ' = [some (.ref a), some (.str n), some (.ref me), some (.ref wl), vn] ∧ Ex H H' ∧ H' wl = some (.lst (ws.map V.str)) ∧ MetAt H' me M ∧ M.Nodup ∧ (∀ x ∈ M, Far (ms.map Prod.fst) n x) ∧ (∀ x ∈ ws, Far (ms.map Prod.fst) n x) ∧ (∀ x, stepK (ms.map Prod.fst) n x = true → x ∈ M ∨ x ∈ ws) ∧ (∀ x ∈ M, ∀ y, stepK (ms.map Prod.fst) x y = true → y ∈ M ∨ y ∈ ws) ∧ ws.length ≤ 12 * (M.length + 1) ∧ m = ((nms (ms.map Prod.fst)).length - M.length) * 13 + ws.length) _
      ⟨none, [], leadsK (ms.map Prod.fst) n, rfl, X12, h2w, met_nil.mono X2, List.nodup_nil, fun x z => (by cases z), fun x z => .one (leads_mem.mp z), fun x z => .inr (leads_mem.mpr z), fun x z => (by cases z), by have := ll n; simp only [List.length_nil]; omega, rfl⟩ ?_
    rintro m σ' H3 ⟨vn, M, ws, rfl, X3, h3w, hM, nd, f1, f2, c1, c2, lw, em⟩
    have subM : ∀ x ∈ M, x ∈ nms (ms.map Prod.fst) := fun x hx => far_sub (f1 x hx)
    have lM := nod_le nd subM
    refine ⟨!ws.isEmpty, fun H4 e4 Q q => ⟨_, rfl, !ws.isEmpty, .inl ⟨_, sq_of (e4 _ _ h3w), by cases ws <;> rfl⟩, q H4 (Ex.refl H4)⟩, fun q H4 X4 => ?_, fun q H4 X4 => ?_⟩
    · have hne : ws ≠ [] := fun z => by rw [z] at q; cases q
      obtain ⟨ws', x, rfl⟩ : ∃ ws' x, ws = ws' ++ [x] := ⟨_, _, (List.dropLast_concat_getLast hne).symm⟩
      have X04 := X3.trans X4
      have h4w := X4 _ _ h3w
      have hx := f2 x (by simp)
      refine ⟨fun σ2 H2 => ∃ m', m' < m ∧ ∃ (vn : Option V) (M ws : List Str), σ2 = [some (.ref a), some (.str n), some (.ref me), some (.ref wl), vn] ∧ Ex H H2 ∧ H2 wl = some (.lst (ws.map V.str)) ∧ MetAt H2 me M ∧ M.Nodup ∧ (∀ x ∈ M, Far (ms.map Prod.fst) n x) ∧ (∀ x ∈ ws, Far (ms.map Prod.fst) n x) ∧ (∀ x, stepK (ms.map Prod.fst) n x = true → x ∈ M ∨ x ∈ ws) ∧ (∀ x ∈ M, ∀ y, stepK (ms.map Prod.fst) x y = true → y ∈ M ∨ y ∈ ws) ∧ ws.length ≤ 12 * (M.length + 1) ∧ m' = ((nms (ms.map Prod.fst)).length - M.length) * 13 + ws.length, fun _ _ z => z, ?_⟩
      rw [List.map_append] at h4w
      have lw' : (ws' ++ [x]).length = ws'.length + 1 := by rw [List.length_append]; rfl
      rw [lw'] at lw em
      refine q_any ⟨_, rfl, Or.inl ⟨rfl, _, sq_of h4w⟩, wl, _, .str x, rfl, rfl, h4w, by simp, ?_⟩
      have hd : (ws'.map V.str ++ [x].map V.str).dropLast = ws'.map V.str := by simp
      rw [hd]
      have X5 : Ex H (upd H4 wl (.lst (ws'.map V.str))) := Ex.mut X04 hwl0
      have h5w : (upd H4 wl (.lst (ws'.map V.str))) wl = some (.lst (ws'.map V.str)) := upd_same
      have hM5 : MetAt (upd H4 wl (.lst (ws'.map V.str))) me M := by
        obtain ⟨kvs, m1, m2⟩ := hM.mono X4
        exact ⟨kvs, (upd_ne nwm.symm).trans m1, m2⟩
      revert X5 h5w hM5
      generalize upd H4 wl (.lst (ws'.map V.str)) = H5
      intro X5 h5w hM5
      have shrink : ∀ {y}, y ∈ M ∨ y ∈ ws' ++ [x] → x ∈ M → y ∈ M ∨ y ∈ ws' := fun z hxM => z.elim .inl fun z => (List.mem_append.mp z).elim .inr fun z => .inl (by rw [List.mem_singleton.mp z]; exact hxM)
      refine s_when (b := !decide (x ∈ M)) (et_B (ev_nmet (ev_var rfl) (ev_var rfl) hM5)) (fun q2 H6 X6 => ?_) (fun q2 H6 X6 => ?_)
      · have nx : x ∉ M := by simpa using q2
        have nd' : (M ++ [x]).Nodup := by
          rw [List.nodup_append]
          exact ⟨nd, by simp, fun y hy z hz e => nx (by rw [List.mem_singleton.mp hz] at e; rw [← e]; exact hy)⟩
        have lM' : (M ++ [x]).length ≤ (nms (ms.map Prod.fst)).length := nod_le nd' fun y hy => (List.mem_append.mp hy).elim (subM y) fun z => by rw [List.mem_singleton.mp z]; exact far_sub hx
        rw [List.length_append, List.length_singleton] at lM'
        obtain ⟨kvs, m1, m2, m3⟩ := hM5.mono X6
        refine q_dput m1 ev_c (ev_var rfl) (ev_var rfl) (by omega) fun H7 X7 => ?_
        have X07 : Ex H (upd H7 me (.dK (putK kvs (.inr x) (.bl true)))) := Ex.mut (X5.trans (X6.trans X7)) hme
        have h7w : (upd H7 me (.dK (putK kvs (.inr x) (.bl true)))) wl = some (.lst (ws'.map V.str)) := (upd_ne nwm).trans ((X6.trans X7) _ _ h5w)
        have hM7 : MetAt (upd H7 me (.dK (putK kvs (.inr x) (.bl true)))) me (M ++ [x]) := met_put m2 m3
        revert X07 h7w hM7
        generalize upd H7 me (.dK (putK kvs (.inr x) (.bl true))) = H8
        intro X07 h7w hM7
        have lx := ll x
        refine q_extL h7w (ev_var rfl) (el_strs (by decide +kernel) (ev_var rfl) (ev_var rfl) (hh.mono X07) (plx x (far_sub hx)) (okS x (far_sub hx))) (by rw [List.length_map, List.length_map]; omega) fun H9 X9 => ?_
        have hM9 : MetAt (upd H9 wl (.lst (ws'.map V.str ++ (leadsK (ms.map Prod.fst) x).map V.str))) me (M ++ [x]) := by
          obtain ⟨kvs, m1, m2⟩ := hM7.mono X9
          exact ⟨kvs, (upd_ne nwm.symm).trans m1, m2⟩
        refine ⟨_, ?_, _, M ++ [x], ws' ++ leadsK (ms.map Prod.fst) x, rfl, Ex.mut (X07.trans X9) hwl0, by rw [upd_same, List.map_append], hM9, nd', fun y hy => ?_, fun y hy => ?_, fun y hy => ?_, fun y hy z hz => ?_, ?_, rfl⟩
        · rw [em, List.length_append, List.length_append, List.length_singleton]
          have : (nms (ms.map Prod.fst)).length - M.length = ((nms (ms.map Prod.fst)).length - (M.length + 1)) + 1 := by omega
          rw [this, Nat.add_mul]
          omega
        · exact (List.mem_append.mp hy).elim (f1 y) fun z => by rw [List.mem_singleton.mp z]; exact hx
        · exact (List.mem_append.mp hy).elim (fun z => f2 y (List.mem_append_left _ z)) fun z => .more hx (leads_mem.mp z)
        · rcases c1 y hy with z | z
          · exact .inl (List.mem_append_left _ z)
          · rcases List.mem_append.mp z with z | z
            · exact .inr (List.mem_append_left _ z)
            · exact .inl (List.mem_append_right _ z)
        · rcases List.mem_append.mp hy with hy | hy
          · rcases c2 y hy z hz with q | q
            · exact .inl (List.mem_append_left _ q)
            · rcases List.mem_append.mp q with q | q
              · exact .inr (List.mem_append_left _ q)
              · exact .inl (List.mem_append_right _ q)
          · rw [List.mem_singleton.mp hy] at hz
            exact .inr (List.mem_append_right _ (leads_mem.mpr hz))
        · rw [List.length_append, List.length_append, List.length_singleton]
          omega
      · have hxM : x ∈ M := by simpa using q2
        refine ⟨_, ?_, _, M, ws', rfl, X5.trans X6, X6 _ _ h5w, hM5.mono X6, nd, f1, fun y hy => f2 y (List.mem_append_left _ hy), fun y hy => shrink (c1 y hy) hxM, fun y hy z hz => shrink (c2 y hy z hz) hxM, by omega, rfl⟩
        rw [em]; omega
    · have hws : ws = [] := by
        cases ws with
        | nil => rfl
        | cons _ _ => cases q
      subst hws
      have X04 := X3.trans X4
      have eM : ∀ x, decide (x ∈ M) = true ↔ Far (ms.map Prod.fst) n x := fun x => by
        rw [decide_eq_true_eq]
        refine ⟨f1 x, fun hf => ?_⟩
        induction hf with
        | one h => exact (c1 _ h).resolve_right (by simp)
        | more _ q ih => exact (c2 _ ih _ q).resolve_right (by simp)
      have eF := far_filter (ks := ms.map Prod.fst) (n := n) eM
      rw [← eF] at kont
      refine s_retL (el_fltS (K := K) (g := fun m => decide (m ∈ M)) (ev_fld (ev_var rfl) (X04 _ _ h1) T.cl_House T.na_House_names h4) (ex_t X04 h7) (by omega) (by show 4 < 5; decide) (fun _ => rfl) fun m H5 X5 hm => et_B (ev_met (ev_var rfl) (ev_var rfl) (hM.mono (X4.trans X5)))) fun l H5 hl X5 h5' => kont l H5 (fresh_back X04 hl) (X04.trans X5) h5'
theorem ok_House_leads_wrongly (T : Txt P K mg) : FnOk P w K mg base CX0 7 T.f_House_leads_wrongly T.d_House_leads_wrongly P_House_leads_wrongly (spWr K T.C_Field T.C_Kind T.C_House) := by
  have G_House_leads_far := ok_House_leads_far (P := P) (w := w) (base := base) T
  refine T.F_House_leads_wrongly.ok sc_House_leads_wrongly (fun vs H Q E h => ?_) (fun cdv A outer s H vs Q E hr h => ?_)
  · obtain ⟨a, n, ms, rfl, _⟩ := h
    rfl
  · obtain ⟨a, n, ms, rfl, hh, hp, hk, kont⟩ := h
    refine ⟨_, (pss_one (ps_ret (pe_callB (cr_any rfl) (by rfl) T.b_any (by decide +kernel) (pa_cons (pe_lc (own := [("name", 2)]) (g := gName 2) (by rfl) sc_House_leads_wrongly.nd (pi_list (pe_meth (pv 0) T.cl_House T.m_House_leads_far G_House_leads_far (hr.mono (by decide)) T.B_House_leads_far .nil pass0 (pa_cons (pv 1) pa_nil))) (blkOk_by (own := [("name", 2)]) (N := N_House_leads_wrongly) (sc := defScope s_House_leads_wrongly) (by decide +kernel)) (fun _ _ _ _ _ => (pg_name (i := 2) sc_House_leads_wrongly.nd rfl (Or.inl rfl))) (fun _ _ _ _ _ => pts_nil) (fun _ _ _ _ _ => (pe_or (pe_cmpR op_eq (pv 2) (pv 1) (nomark _)) (pe_one (Way.kk_fld (K := K) (pe_dget (hu_of hr) (Way.kk_fld (K := K) (pv 0) rfl) (pv 2) (fun _ _ => rfl)) rfl))))) pa_nil)))), ?_⟩
    obtain ⟨dx, fs, e, d, nn, h1, h2, h3, h4, h0, h5, h6, h7⟩ := id hh.at_
    have N12 : (farK (ms.map Prod.fst) n).length ≤ 12 := by
      have := hh.ok.len
      have l2 : (farK (ms.map Prod.fst) n).length ≤ (nms (ms.map Prod.fst)).length := List.length_filter_le _ _
      have l3 : (nms (ms.map Prod.fst)).length = (ms.map Prod.fst).length := by unfold nms; rw [List.length_map]
      omega
    refine s_ret (ev_is (ev_any (K := K) (bs := (farK (ms.map Prod.fst) n).map fun m => decide (m = n) || (match kfind (ms.map Prod.fst) m with
      | some k => k.heirs
      | none => false)) ?_) (by unfold wrongK; rw [List.any_map]; rfl)) fun H1 X1 => kont H1 X1
    rw [List.map_map]
    refine el_mapSN (K := K) (w := V.bl ∘ fun m => decide (m = n) || (match kfind (ms.map Prod.fst) m with
      | some k => k.heirs
      | none => false)) (el_strs (by decide +kernel) (ev_var rfl) (ev_var rfl) hh hp hk) (by omega) (fun _ => rfl) fun m H1 X1 hm => ?_
    obtain ⟨k, hkm⟩ := kfind_in (far_sub (far_mem.mp hm))
    obtain ⟨v, hv, hkv, _, _⟩ := h5.find hkm
    obtain ⟨x, dx', fs', rfl, g1, g2⟩ := kat_heirs (hkv.mono X1)
    refine ev_is (ev_orV (ev_op (ev_var rfl) (ev_var rfl) (rv_eq rfl)) fun _ => ev_fld (ev_dgetK (ev_fld (ev_var rfl) (X1 _ _ h1) T.cl_House T.na_House_by_name h2) (ev_var rfl) (X1 _ _ h5.h) hv) g1 T.cl_Kind T.na_Kind_heirs g2) ?_
    simp [hkm]
theorem ok_House_contains (T : Txt P K mg) : FnOk P w K mg base CX0 3 T.f_House_contains T.d_House_contains P_House_contains (spCo K T.C_Field T.C_Kind T.C_House) := by
  have G_is_kind_name := ok_is_kind_name (P := P) (w := w) (base := base) T
  refine T.F_House_contains.ok sc_House_contains (fun vs H Q E h => ?_) (fun cdv A outer s H vs Q E hr h => ?_)
  · obtain ⟨a, v, d, ms, rfl, _⟩ := h
    rfl
  · obtain ⟨a, v, d, ms, rfl, hh, pq, kont⟩ := h
    refine ⟨_, (pss_one (ps_ret (pe_and (pe_call G_is_kind_name hr (by rfl) T.g_is_kind_name T.F_is_kind_name.kp T.B_is_kind_name .nil pass0 (pa_cons (pv 1) pa_nil)) (pe_one (pe_cmpR op_in_seq (pv 1) (pe_fld (pv 0) rfl) (by rfl)))))), ?_⟩
    obtain ⟨dx, fs, e, d', nn, h1, h2, h3, h4, h0, h5, h6, h7⟩ := id hh.at_
    cases hs : fKN d with
    | false =>
      refine s_ret (ev_is (ev_andV (a := false) (b := true) (ev_is (ev_b1 (ev_var rfl) pq) (by rw [hs])) fun z => nomatch z) ?_) fun H1 X1 => kont H1 X1
      cases d with
      | str x =>
        have hx : knS x = false := hs
        rw [show inNames (ms.map Prod.fst) (.str x) = false from decide_eq_false fun z => by
          obtain ⟨k, hk, e⟩ := List.mem_map.mp z
          have := (hh.ok.g k hk).n
          rw [e, hx] at this; cases this]
        rfl
      | _ => rfl
    | true =>
      obtain ⟨x, rfl⟩ := fKN_str hs
      obtain ⟨rfl, _⟩ := pv_str pq
      refine s_ret (ev_is (ev_andV (ev_is (ev_b1 (ev_var rfl) pq) (by rw [hs])) fun _ => ev_is (ev_op (ev_var rfl) (ev_fld (ev_var rfl) h1 T.cl_House T.na_House_names h4) (rv_inT (K := K) (neg := false) h7 rfl (Way.flat_strs (nms (ms.map Prod.fst))))) (show V.bl (inV (.str x) ((nms (ms.map Prod.fst)).map V.str)) = V.bl (decide (x ∈ nms (ms.map Prod.fst))) by rw [inV_strs])) ?_) fun H1 X1 => kont H1 X1
      rfl
theorem ok_House_len (T : Txt P K mg) : FnOk P w K mg base CX0 1 T.f_House_len T.d_House_len P_House_len (spHl K T.C_Field T.C_Kind T.C_House) := by
  refine T.F_House_len.ok sc_House_len (fun vs H Q E h => ?_) (fun cdv A outer s H vs Q E hr h => ?_)
  · obtain ⟨a, ms, rfl, _⟩ := h
    rfl
  · obtain ⟨a, ms, rfl, hh, kont⟩ := h
    refine ⟨_, (pss_one (ps_ret (pe_callB call_len_seq (by rfl) T.b_len (by decide +kernel) (pa_cons (pe_fld (pv 0) rfl) pa_nil)))), ?_⟩
    obtain ⟨dx, fs, e, d', nn, h1, h2, h3, h4, h0, h5, h6, h7⟩ := id hh.at_
    exact s_ret (ev_is (ev_cb (ea_cons (ev_fld (ev_var rfl) h1 T.cl_House T.na_House_names h4) ea_nil) fun H2 X2 _ q => ⟨nn, _, rfl, .inr (ex_t X2 h7), q H2 (Ex.refl H2)⟩) (by unfold nms; rw [List.length_map, List.length_map, List.length_map])) fun H1 X1 => kont H1 X1
end
end K03

namespace K03
open PySem L2 Way Evl
/-! a house made of kinds: which kind is refused -/
def fb (names : List Str) : List Kd → List Kd → Option Str
  | _, [] => none
  | ks, k :: r => if fitsK ks names k = true then fb names (ks ++ [k]) r else some k.name
noncomputable def firstWrong (ks : List Kd) (l : List Kd) : Option Str := (l.find? fun k => k.frozen && wrongK ks k.name).map Kd.name
def rootOk (ks : List Kd) : PyData → Bool
  | .str x => match kfind ks x with
    | some k => k.key.isNone
    | none => false
  | _ => false
inductive HR
  | kind (n : Str)
  | root
  | fine
noncomputable def hres (ks : List Kd) (d : PyData) : HR := match fb (nms ks) [] ks with
  | some n => .kind n
  | none => match firstWrong ks ks with
    | some n => .kind n
    | none => if rootOk ks d = true then .fine else .root
/-- kinds that fit so far -/
structure PrOk (ks : List Kd) (names : List Str) : Prop where
  nd : (nms ks).Nodup
  b : ∀ k ∈ ks, ∀ b, k.base = some b → ∃ k', kfind ks b = some k'
  t : ∀ k ∈ ks, ∀ f ∈ gath ks k, tgtOk names f = true
theorem kfind_app {ks r : List Kd} {n : Str} {k : Kd} (h : kfind ks n = some k) : kfind (ks ++ r) n = some k := by
  unfold kfind at h ⊢
  rw [List.find?_append, h]; rfl
theorem gath_app {ks r : List Kd} {k : Kd} (h : ∀ b, k.base = some b → ∃ k', kfind ks b = some k') : gath (ks ++ r) k = gath ks k := by
  unfold gath baseFs
  cases hb : k.base with
  | none => rfl
  | some b =>
    obtain ⟨k', hk⟩ := h b hb
    simp only [hk, kfind_app hk]
theorem fits_base {ks : List Kd} {names : List Str} {k : Kd} (h : fitsK ks names k = true) : ∀ b, k.base = some b → ∃ k', kfind ks b = some k' := fun b hb => by
  simp only [fitsK, Bool.and_eq_true, baseOk, hb] at h
  cases q : kfind ks b with
  | none => simp [q] at h
  | some k' => exact ⟨k', rfl⟩
theorem PrOk.snoc {ks : List Kd} {names : List Str} {k : Kd} (p : PrOk ks names) (h : fitsK ks names k = true) : PrOk (ks ++ [k]) names := by
  have hb := fits_base h
  simp only [fitsK, Bool.and_eq_true, Bool.not_eq_true', decide_eq_false_iff_not] at h
  refine ⟨?_, fun k' hk b hb' => ?_, fun k' hk f hf => ?_⟩
  · unfold nms
    rw [List.map_append, List.nodup_append]
    refine ⟨p.nd, by simp, fun x hx y hy e => h.1 ?_⟩
    have : y = k.name := List.mem_singleton.mp hy
    rw [this] at e
    rw [← e]; exact hx
  · rcases List.mem_append.mp hk with q | q
    · obtain ⟨k2, h2⟩ := p.b k' q b hb'
      exact ⟨k2, kfind_app h2⟩
    · rw [List.mem_singleton.mp q] at hb'
      obtain ⟨k2, h2⟩ := hb b hb'
      exact ⟨k2, kfind_app h2⟩
  · rcases List.mem_append.mp hk with q | q
    · rw [gath_app (p.b k' q)] at hf
      exact p.t k' q f hf
    · rw [List.mem_singleton.mp q] at hf
      rw [gath_app hb] at hf
      exact List.all_eq_true.mp h.2.2.2.1 f hf
theorem prNil (names : List Str) : PrOk [] names := ⟨List.nodup_nil, fun k hk => (by cases hk), fun k hk => (by cases hk)⟩
theorem kfind_snoc {ks : List Kd} {k k' : Kd} {n : Str} (h : kfind (ks ++ [k]) n = some k') : kfind ks n = some k' ∨ (kfind ks n = none ∧ k' = k ∧ k.name = n) := by
  unfold kfind at h ⊢
  rw [List.find?_append] at h
  cases q : List.find? (fun k => decide (k.name = n)) ks with
  | some z => rw [q] at h; exact .inl h
  | none =>
    rw [q] at h
    simp only [Option.none_or, List.find?_cons, List.find?_nil] at h
    split at h
    · rename_i e
      cases h
      exact .inr ⟨rfl, rfl, of_decide_eq_true e⟩
    · cases h
/-- what stands where a kind is asked for -/
def KeAt (K : PySem.W.Frag) (CF CK : Addr) : Option Kd → V → Hp → Prop
  | some kd, v, H => KAt K CF CK kd v H
  | none, v, H => ∃ t, (∀ H1, Ex H H1 → TyX K H1 v t) ∧ PySem.W.kitOne K t (.ref CK) = some false
theorem keAt_mono {K : PySem.W.Frag} {CF CK : Addr} : Mon (KeAt K CF CK) := fun e v H H' x h => by
  cases e with
  | some kd => exact KAt.mono x h
  | none => exact let ⟨t, h1, h2⟩ := h; ⟨t, fun H1 e1 => h1 H1 (x.trans e1), h2⟩
theorem pr_some {K : PySem.W.Frag} {CF CK : Addr} {H : Hp} : ∀ {xs : List V} {ks : List Kd}, Paired (fun x e => KeAt K CF CK e x H) xs (ks.map some) → Paired (fun x k => KAt K CF CK k x H) xs ks
  | [], [], .nil => .nil
  | _ :: _, _ :: _, .cons a r => .cons a (pr_some r)
theorem KAt.kpx {K : PySem.W.Frag} {CF CK C' x dx : Addr} {kd : Kd} {v : V} {H H' : Hp} (hx : H x = some (.ins C' dx [])) (k : Kp x H H') (h : KAt K CF CK kd v H) : KAt K CF CK kd v H' := by
  obtain ⟨a, dy, fs, ft, xs, h1, h2, h3, h4, h5, h6, h7, h8, h9, h10, h11⟩ := h
  refine ⟨a, dy, fs, ft, xs, h1, k _ _ (fun z => ?_) h2, h3, h4, h5, h6, h7, h8, h9, (Kps.kp (off_ins hx) k).t _ _ h10, Paired.mapP h11 fun _ _ q => q.kpx hx k⟩
  rw [z, hx] at h2
  cases h2
  cases h3
theorem EAt.kpx {K : PySem.W.Frag} {CF CK C' x dx e : Addr} {ms : List (Kd × V)} {H H' : Hp} (hx : H x = some (.ins C' dx [])) (k : Kp x H H') (h : EAt K CF CK ms e H) : EAt K CF CK ms e H' := ⟨k _ _ (fun z => by have := h.h; rw [z, hx] at this; cases this) h.h, fun m hm => ⟨(h.k m hm).1.kpx hx k, (h.k m hm).2⟩⟩
theorem DAt.kpx {K : PySem.W.Frag} {CF C' x dx d : Addr} {ks : List Kd} {H H' : Hp} (hx : H x = some (.ins C' dx [])) (k : Kp x H H') (h : DAt K CF ks d H) : DAt K CF ks d H' := by
  obtain ⟨kvs, h1, h2, h3⟩ := h.h
  exact ⟨kvs, k _ _ (fun z => by rw [z, hx] at h1; cases h1) h1, h2, fun n kd q => let ⟨t, xs, a, b, c⟩ := h3 n kd q; ⟨t, xs, a, (Kps.kp (off_ins hx) k).t _ _ b, Paired.mapP c fun _ _ z => z.kpx hx k⟩⟩
section
variable {K : PySem.W.Frag} {H : Hp} {σ : L2.St} {tl : TE} {D : Ends} {tz tu : TS} {g : TG}
theorem q_forSq {a : Addr} {b : Bool} {xs : List V} (h : Ev tl σ H (.ref a)) (hx : SqB K H b a xs) (Pv : Nat → L2.St → Hp → Prop) (h0 : ∀ H1, Ex H H1 → Pv 0 σ H1) (hl : ∀ i σ' H', i ≤ xs.length → Pv i σ' H' → SqB K H' b a xs)
    (hs : ∀ i x σ' H', xs[i]? = some x → Pv i σ' H' → g x σ' H' fun σ2 H2 => tu { D with nx := Pv (i + 1), ct := Pv (i + 1), bk := tz D } σ2 H2) (hd : ∀ σ' H', Pv xs.length σ' H' → tz D σ' H') : tSeq (tFor (iSq K tl) g tu) tz D σ H := by
  cases b with
  | true => exact h H (Ex.refl H) _ fun H1 e => ⟨a, rfl, .inl ⟨⟨xs, SqL.of (e _ _ hx)⟩, for_list (D := { D with nx := tz D }) Pv (h0 H1 e) (fun i σ' H' hi p => SqL.of (hl i σ' H' hi p)) hs hd⟩⟩
  | false => exact h H (Ex.refl H) _ fun H1 e => ⟨a, rfl, .inr ⟨⟨xs, ex_t e hx⟩, for_tup (D := { D with nx := tz D }) Pv (h0 H1 e) hl hs hd⟩⟩
end
theorem fb_take {ks : List Kd} {names : List Str} : ∀ {l : List Kd} {e : List Kd} {i : Nat} {k : Kd}, (∀ j k', j < i → l[j]? = some k' → fitsK (e ++ l.take j) names k' = true) → l[i]? = some k → fitsK (e ++ l.take i) names k = false → fb names e l = some k.name
  | [], e, i, k, _, hk, _ => by cases hk
  | a :: r, e, 0, k, _, hk, hf => by
    cases hk
    simp only [List.take_zero, List.append_nil] at hf
    unfold fb
    rw [if_neg (by rw [hf]; decide)]
  | a :: r, e, i + 1, k, h, hk, hf => by
    have h0 := h 0 a (by omega) rfl
    simp only [List.take_zero, List.append_nil] at h0
    unfold fb
    rw [if_pos h0]
    refine fb_take (ks := ks) (i := i) (fun j k' hj hk' => ?_) hk ?_
    · have := h (j + 1) k' (by omega) hk'
      rw [List.take_succ_cons] at this
      rwa [List.append_assoc]
    · rw [List.take_succ_cons] at hf
      rwa [List.append_assoc]
theorem fb_none {names : List Str} : ∀ {l e : List Kd}, (∀ j k', l[j]? = some k' → fitsK (e ++ l.take j) names k' = true) → fb names e l = none
  | [], e, _ => rfl
  | a :: r, e, h => by
    have h0 := h 0 a rfl
    simp only [List.take_zero, List.append_nil] at h0
    unfold fb
    rw [if_pos h0]
    refine fb_none fun j k' hk' => ?_
    have := h (j + 1) k' hk'
    rw [List.take_succ_cons] at this
    rwa [List.append_assoc]
end K03

namespace K03
open PySem L2 Way Evl
def spHi (K : PySem.W.Frag) (CF CK CH CB : Addr) : Sp := fun vs H Q E => ∃ (x dx : Addr) (rv kv : V) (dr : PyData), vs = [.ref x, rv, kv] ∧ H x = some (.ins CH dx []) ∧ PV K H rv dr ∧
  ((∃ t, (∀ H1, Ex H H1 → TyX K H1 kv t) ∧ PySem.W.kitAny K t [.type "list", .type "tuple"] = some false ∧ ∀ d H', Ex H H' → H' d = some (.xd [("name", .non)]) → E (.ref CB) (some d) H') ∨
   ∃ (a : Addr) (b : Bool) (xs : List V) (es : List (Option Kd)), kv = .ref a ∧ SqB K H b a xs ∧ Paired (fun x e => KeAt K CF CK e x H) xs es ∧ (∀ kd, some kd ∈ es → KGood kd) ∧ xs.length ≤ 30000 ∧
    ((es.length = 0 ∨ 12 < es.length ∨ none ∈ es) → ∀ d H', Ex H H' → H' d = some (.xd [("name", .non)]) → E (.ref CB) (some d) H') ∧
    ∀ ks : List Kd, es = ks.map some → 1 ≤ ks.length → ks.length ≤ 12 → match hres ks dr with
      | .kind n => ∀ d H', Kp x H H' → H' d = some (.xd [("name", .str n)]) → E (.ref CB) (some d) H'
      | .root => ∀ d H', Kp x H H' → H' d = some (.xd [("name", rv)]) → E (.ref CB) (some d) H'
      | .fine => ∀ H', Kp x H H' → HpAt K CF CK CH (ks.zip xs) x H' → (∃ dx fs, H' x = some (.ins CH dx fs) ∧ fs.lookup ("root" : Str) = some rv) → Q .non H')
theorem somes_of : ∀ {es : List (Option Kd)}, es.all Option.isSome = true → ∃ ks : List Kd, es = ks.map some
  | [], _ => ⟨[], rfl⟩
  | e :: es, h => by
    rw [List.all_cons, Bool.and_eq_true] at h
    obtain ⟨ks, rfl⟩ := somes_of h.2
    cases e with
    | some k => exact ⟨k :: ks, rfl⟩
    | none => cases h.1
theorem zip_fst : ∀ {ks : List Kd} {xs : List V}, xs.length = ks.length → (ks.zip xs).map Prod.fst = ks
  | [], _, _ => rfl
  | k :: ks, [], h => by cases h
  | k :: ks, x :: xs, h => by
    rw [List.zip_cons_cons, List.map_cons, zip_fst (by simpa using h)]
theorem zip_take {ks : List Kd} {xs : List V} (h : xs.length = ks.length) (i : Nat) : ((ks.zip xs).take i).map Prod.fst = ks.take i := by
  rw [List.map_take, zip_fst h]
theorem sqB_kpx {K : PySem.W.Frag} {C x dx a : Addr} {b : Bool} {xs : List V} {H H' : Hp} (hx : H x = some (.ins C dx [])) (h : SqB K H b a xs) (k : Kp x H H') : SqB K H' b a xs := by
  cases b with
  | true => exact k _ _ (fun z => by subst z; have h' : H a = some (.lst xs) := h; rw [hx] at h'; cases h') h
  | false => exact (Kps.kp (off_ins hx) k).t _ _ h
theorem kat_key {K : PySem.W.Frag} {CF CK : Addr} {k : Kd} {v : V} {H : Hp} (h : KAt K CF CK k v H) : ∃ x dx fs, v = .ref x ∧ H x = some (.ins CK dx fs) ∧ fs.lookup ("key" : Str) = some (oV k.key) := let ⟨a, dx, fs, _, _, e, h1, _, _, _, _, _, h7, _⟩ := h; ⟨a, dx, fs, e, h1, h7⟩
theorem kat_frozen {K : PySem.W.Frag} {CF CK : Addr} {k : Kd} {v : V} {H : Hp} (h : KAt K CF CK k v H) : ∃ x dx fs, v = .ref x ∧ H x = some (.ins CK dx fs) ∧ fs.lookup ("frozen" : Str) = some (.bl k.frozen) ∧ fs.lookup ("name" : Str) = some (.str k.name) := let ⟨a, dx, fs, _, _, e, h1, h2, _, _, h5, _⟩ := h; ⟨a, dx, fs, e, h1, h5, h2⟩
theorem wrong_first {ks : List Kd} : ∀ {l : List Kd} {i : Nat} {k : Kd}, (∀ (j : Nat) (k' : Kd), j < i → l[j]? = some k' → (k'.frozen && wrongK ks k'.name) = false) → l[i]? = some k → (k.frozen && wrongK ks k.name) = true → firstWrong ks l = some k.name
  | [], _, _, _, hk, _ => by cases hk
  | a :: r, 0, k, _, hk, hf => by
    cases hk
    unfold firstWrong
    rw [List.find?_cons_of_pos (by simpa using hf)]; rfl
  | a :: r, i + 1, k, h, hk, hf => by
    have h0 := h 0 a (by omega) rfl
    unfold firstWrong
    rw [List.find?_cons_of_neg (by rw [h0]; decide)]
    exact wrong_first (l := r) (i := i) (fun j k' hj hk' => h (j + 1) k' (by omega) hk') hk hf
theorem wrong_none {ks l : List Kd} (h : ∀ (j : Nat) (k' : Kd), l[j]? = some k' → (k'.frozen && wrongK ks k'.name) = false) : firstWrong ks l = none := by
  unfold firstWrong
  rw [List.find?_eq_none.mpr fun k hk => ?_]; rfl
  obtain ⟨j, hj⟩ := List.getElem?_of_mem hk
  rw [h j k hj]; decide
theorem prOk_hs {ks : List Kd} (p : PrOk ks (nms ks)) (g : ∀ k ∈ ks, KGood k) (l : ks.length ≤ 12) : HsOk ks := ⟨p.nd, l, g, p.b, p.t⟩
theorem ev_wr {K : PySem.W.Frag} {CF CK CH a : Addr} {H : Hp} {σ : L2.St} {to tn : TE} {n : Str} {ms : List (Kd × V)} {E : XK} (ho : Ev to σ H (.ref a)) (hn : Ev tn σ H (.str n)) (h : HpAt K CF CK CH ms a H) (hp : plS n = true) (hk : okN (ms.map Prod.fst) n) : Ev (tMeth CH "leads_wrongly" (spWr K CF CK CH) [] E to (tCons tn tNil)) σ H (.bl (wrongK (ms.map Prod.fst) n)) := fun H1 e Q q =>
  ho H1 e _ fun H2 e2 => by
    obtain ⟨dx, fs, eb, d, nn, h1, h2, h3, h4, h0, _⟩ := (h.mono (e.trans e2)).at_
    exact ⟨a, dx, fs, rfl, h1, h0 _ (by decide +kernel), hn H2 (e.trans e2) _ fun H3 e3 => ⟨a, n, ms, rfl, h.mono ((e.trans e2).trans e3), hp, hk, fun H4 e4 => q H4 ((e2.trans e3).trans e4)⟩⟩
section
variable {P : Program} {w : World} {K : PySem.W.Frag} {mg : Str → Option Value} {base : Heap}
theorem ok_House_init (T : Txt P K mg) : FnOk P w K mg base (L2.CX P w) 8 T.f_House_init T.d_House_init P_House_init (spHi K T.C_Field T.C_Kind T.C_House T.C_BadHouse) := by
  have G_fits_house := ok_fits_house (P := P) (w := w) (base := base) T
  have G_gathered := ok_gathered (P := P) (w := w) (base := base) T
  have G_House_leads_wrongly := ok_House_leads_wrongly (P := P) (w := w) (base := base) T
  have G_BadHouse_init := ok_BadHouse_init (P := P) (w := w) (base := base) T
  have G_House_contains := ok_House_contains (P := P) (w := w) (base := base) T
  have G_BadHouse_init := ok_BadHouse_init (P := P) (w := w) (base := base) T
  refine T.F_House_init.okX sc_House_init (fun vs H Q E h => ?_) (fun cdv A outer s H vs Q E hr h => ?_)
  · obtain ⟨x, dx, rv, kv, dr, rfl, _⟩ := h
    rfl
  · obtain ⟨x, dx, rv, kv, dr, rfl, hx, pr, hv⟩ := h
    refine ⟨_, (pss_cons (ps_if (PW.pt (pw_or (pt_not (pt_val (pe_callB call_isiT (by rfl) T.b_isinstance (by decide +kernel) (pa_cons (pv 2) (pa_cons (pe_tup (pa_cons (pe_bltn (v := .ty "list") (by rfl) T.b_list (by decide +kernel) rfl) (pa_cons (pe_bltn (v := .ty "tuple") (by rfl) T.b_tuple (by decide +kernel) rfl) pa_nil))) pa_nil))))) (pw_or1 (pt_not (pt_chain op_le op_le pe_int (pe_callB call_len_seq (by rfl) T.b_len (by decide +kernel) (pa_cons (pv 2) pa_nil)) (ClX.pe_cval (pe_glob (v := .ref T.C_House) (by rfl) T.g_House rfl))))))) (pss_one (ps_raise rfl (takes_of rfl rfl rfl rfl) (pmk_oex T.X_BadHouse.oex T.i_BadHouse T.t_BadHouse G_BadHouse_init (hr.mono (by decide)) T.B_BadHouse_init .nil pass0 (by rfl) T.g_BadHouse (pa_cons pe_non pa_nil)))) pss_nil)
      (pss_cons (ps_if (pt_not (pt_val (pe_callB (cr_all rfl) (by rfl) T.b_all (by decide +kernel) (pa_cons (pe_lc (own := [("kind", 6)]) (g := gName 6) (by rfl) sc_House_init.nd (Way.pi_sq (pv 2)) (blkOk_by (own := [("kind", 6)]) (N := N_House_init) (sc := defScope s_House_init) (by decide +kernel)) (fun _ _ _ _ _ => (pg_name (i := 6) sc_House_init.nd rfl (Or.inl rfl))) (fun _ _ _ _ _ => pts_nil) (fun _ _ _ _ _ => (pe_callB (Way.kk_isi (K := K)) (by rfl) T.b_isinstance (by decide +kernel) (pa_cons (pv 6) (pa_cons (pe_glob (v := .ref T.C_Kind) (by rfl) T.g_Kind rfl) pa_nil))))) pa_nil)))) (pss_one (ps_raise rfl (takes_of rfl rfl rfl rfl) (pmk_oex T.X_BadHouse.oex T.i_BadHouse T.t_BadHouse G_BadHouse_init (hr.mono (by decide)) T.B_BadHouse_init .nil pass0 (by rfl) T.g_BadHouse (pa_cons pe_non pa_nil)))) pss_nil)
      (pss_cons (ps_setLc (i := 3) (own := [("kind", 6)]) (g := gName 6) (by rfl) sc_House_init.nd rfl rfl (sw_true rfl rfl rfl (by decide +kernel)) (Way.pi_sq (pv 2)) (blkOk_by (own := [("kind", 6)]) (N := N_House_init) (sc := defScope s_House_init) (by decide +kernel)) (fun _ _ _ _ _ => (pg_name (i := 6) sc_House_init.nd rfl (Or.inl rfl))) (fun _ _ _ _ _ => pts_nil) (fun _ _ _ _ _ => (Way.kk_fld (K := K) (pv 6) rfl)))
      (pss_cons (ps_set (i := 4) sc_House_init.nd rfl (Or.inl rfl) pe_dnewK)
      (pss_cons (ps_set (i := 5) sc_House_init.nd rfl (Or.inl rfl) pe_dnewK)
      (pss_cons (ps_for (passes_of rfl) rfl (Way.pi_sq (pv 2)) (pg_name (i := 6) sc_House_init.nd rfl (Or.inl rfl)) (pss_cons (ps_if (pt_not (pt_val (pe_call G_fits_house (hr.mono (by decide)) (by rfl) T.g_fits_house T.F_fits_house.kp T.B_fits_house .nil pass0 (pa_cons (pv 6) (pa_cons (pv 4) (pa_cons (pv 3) pa_nil)))))) (pss_one (ps_raise rfl (takes_of rfl rfl rfl rfl) (pmk_oex T.X_BadHouse.oex T.i_BadHouse T.t_BadHouse G_BadHouse_init (hr.mono (by decide)) T.B_BadHouse_init .nil pass0 (by rfl) T.g_BadHouse (pa_cons (pe_fld (pv 6) rfl) pa_nil)))) pss_nil)
      (pss_cons (ps_asg (pe_callTy call_tuple_of (by rfl) T.b_tuple (by decide +kernel) (pa_cons (pe_call G_gathered (hr.mono (by decide)) (by rfl) T.g_gathered T.F_gathered.kp T.B_gathered .nil pass0 (pa_cons (pv 6) (pa_cons (pv 4) pa_nil))) pa_nil)) (pg_sub (pv 5) (pe_fld (pv 6) rfl) (set_dict (hu_of hr))))
      (pss_one (ps_asg (pv 6) (pg_sub (pv 4) (pe_fld (pv 6) rfl) (set_dict (hu_of hr))))))))
      (pss_cons (ps_fld (pv 0) (pv 4) rfl)
      (pss_cons (ps_fld (pv 0) (pv 5) rfl)
      (pss_cons (ps_fld (pv 0) (pe_callTy call_tuple_of (by rfl) T.b_tuple (by decide +kernel) (pa_cons (pv 3) pa_nil)) rfl)
      (pss_cons (ps_for (passes_of rfl) rfl (Way.pi_sq (pv 2)) (pg_name (i := 6) sc_House_init.nd rfl (Or.inl rfl)) (pss_one (ps_if (PW.pt (pw_and (pt_val (pe_fld (pv 6) rfl)) (pw_and1 (pt_val (pe_meth (pv 0) T.cl_House T.m_House_leads_wrongly G_House_leads_wrongly (hr.mono (by decide)) T.B_House_leads_wrongly .nil pass0 (pa_cons (pe_fld (pv 6) rfl) pa_nil)))))) (pss_one (ps_raise rfl (takes_of rfl rfl rfl rfl) (pmk_oex T.X_BadHouse.oex T.i_BadHouse T.t_BadHouse G_BadHouse_init (hr.mono (by decide)) T.B_BadHouse_init .nil pass0 (by rfl) T.g_BadHouse (pa_cons (pe_fld (pv 6) rfl) pa_nil)))) pss_nil)))
      (pss_cons (ps_if (PW.pt (pw_or (pt_cmpR (Way.op_notInO G_House_contains T.m_House_contains.at_ T.m_House_contains.fn T.B_House_contains pass0 (hr.mono (by decide))) (pv 1) (pv 0) (by rfl)) (pw_or1 (pt_cmpR op_notN (pe_fld (pe_dget (hu_of hr) (pv 4) (pv 1) (fun _ _ => rfl)) rfl) pe_non (nomark _))))) (pss_one (ps_raise rfl (takes_of rfl rfl rfl rfl) (pmk_oex T.X_BadHouse.oex T.i_BadHouse T.t_BadHouse G_BadHouse_init (hr.mono (by decide)) T.B_BadHouse_init .nil pass0 (by rfl) T.g_BadHouse (pa_cons (pv 1) pa_nil)))) pss_nil)
      (pss_one (ps_fld (pv 0) (pv 1) rfl))))))))))))), ?_⟩
    rcases hv with ⟨t, ty, kit, ke⟩ | ⟨a, b, xs, es, rfl, hs, hp, hg, hz, ke, kk⟩
    · refine q_when (b := true) (et_is (et_or (a := true) (b := true) (et_not (a := false) (et_B (ev_isLT (ev_var rfl) ty kit))) fun q => nomatch q) rfl) (fun _ H1 X1 => ?_) fun q => nomatch q
      exact mko1 (ea_cons ev_c ea_nil) fun d H2 X2 hd => ke d H2 (X1.trans X2) hd
    have lx : xs.length = es.length := Paired.length hp
    have ety : ∃ t, (∀ H1, Ex H H1 → TyX K H1 (.ref a) t) ∧ PySem.W.kitAny K t [.type "list", .type "tuple"] = some true := by
      cases b with
      | true => exact ⟨_, fun H1 e => .base (.lst (e _ _ hs)), kd_sq (d := .list [])⟩
      | false => exact ⟨_, fun H1 e => ty_sqT (ex_t e hs), kd_sq (d := .tuple [])⟩
    obtain ⟨ty, t1, t2⟩ := ety
    refine q_when (b := !(decide ((1 : Int) ≤ (es.length : Int)) && decide ((es.length : Int) ≤ 12))) (et_is (et_or (a := false) (et_not (a := true) (et_B (ev_isLT (ev_var rfl) t1 t2))) fun _ => et_not (et_test (ev_chain ev_c (ev_is (ev_cb (ea_cons (ev_var rfl) ea_nil) fun H2 X2 _ q => ⟨a, xs, rfl, (hs.mono X2).sq, q H2 (Ex.refl H2)⟩) (by rw [lx])) (ev_cval' ev_c T.cr_House T.cv_House_KINDS) rv_I0 rv_I0))) (by simp)) (fun q H1 X1 => ?_) (fun q1 H1 X1 => ?_)
    · refine mko1 (ea_cons ev_c ea_nil) fun d H2 X2 hd => ke ?_ d H2 (X1.trans X2) hd
      by_cases z : es.length = 0
      · exact .inl z
      · refine .inr (.inl ?_)
        simp only [Bool.not_eq_true', Bool.and_eq_false_iff, decide_eq_false_iff_not] at q
        omega
    have q1' : 1 ≤ es.length ∧ es.length ≤ 12 := by
      simp only [Bool.not_eq_false', Bool.and_eq_true, decide_eq_true_eq] at q1
      omega
    refine q_when (b := !es.all Option.isSome) (et_not (et_B (ev_is (ev_all (K := K) (bs := es.map Option.isSome) ?_) (by rw [List.all_map]; rfl)))) (fun q H2 X2 => ?_) (fun q2 H2 X2 => ?_)
    · rw [List.map_map]
      refine el_mapQ (K := K) (P := KeAt K T.C_Field T.C_Kind) (S := es) (w := V.bl ∘ Option.isSome) (ev_var rfl) (hs.mono X1).sq (Paired.mapP hp fun _ _ h => keAt_mono _ _ _ _ X1 h) (by omega) (fun _ => rfl) fun y e H2 X2 he hy => ?_
      have hy2 := keAt_mono _ _ _ _ X2 hy
      cases e with
      | some kd =>
        obtain ⟨y', dy, fs', ft, zs, rfl, g1, _⟩ := (hy2 : KAt K T.C_Field T.C_Kind kd y H2)
        exact ev_cb (ea_cons (ev_var rfl) (ea_cons ev_c ea_nil)) (rc_isi (.own _) (fun H3 X3 => T.ic_Kind.ty T.cl_Kind (X3 _ _ g1)) kit_self)
      | none =>
        obtain ⟨t, h1, h2⟩ := (hy2 : KeAt K T.C_Field T.C_Kind none y H2)
        exact ev_cb (ea_cons (ev_var rfl) (ea_cons ev_c ea_nil)) (rc_isi (.own _) h1 h2)
    · refine mko1 (ea_cons ev_c ea_nil) fun d H3 X3 hd => ke (.inr (.inr ?_)) d H3 ((X1.trans X2).trans X3) hd
      have : es.all Option.isSome = false := by simpa using q
      apply Classical.byContradiction
      intro z
      have : es.all Option.isSome = true := List.all_eq_true.mpr fun e he => by
        cases e with
        | some k => rfl
        | none => exact absurd he z
      simp_all
    have q2' : es.all Option.isSome = true := by simpa using q2
    obtain ⟨ks, rfl⟩ := somes_of q2'
    rw [List.length_map] at q1' lx
    have kk := kk ks rfl q1'.1 q1'.2
    have hg' : ∀ k ∈ ks, KGood k := fun k hk => hg k (List.mem_map_of_mem hk)
    have hks := pr_some hp
    have X12 := X1.trans X2
    have mapn : (ks.map fun k => V.str k.name) = (nms ks).map V.str := by unfold nms; rw [List.map_map]; rfl
    refine q_asgL (el_mapQ (K := K) (P := KAt K T.C_Field T.C_Kind) (S := ks) (w := fun k => .str k.name) (ev_var rfl) (hs.mono X12).sq (Paired.mapP hks fun _ _ h => h.mono X12) (by omega) (fun _ => rfl) fun y k H3 X3 hk hy => ?_) fun ln H3 hln X3 h3 => ?_
    · obtain ⟨y', dy, fs', rfl, g1, g2⟩ := kat_name (hy.mono X3)
      exact ev_fld (ev_var rfl) g1 T.cl_Kind T.na_Kind_name g2
    rw [mapn] at h3
    have X13 := X12.trans X3
    refine q_any fun e he => ?_
    have X4 : Ex H3 (upd H3 e (.dK [])) := Ex.new he
    have h4e : (upd H3 e (.dK [])) e = some (.dK []) := upd_same
    have he0 : H e = none := fresh_back X13 he
    revert X4 h4e
    generalize upd H3 e (.dK []) = H4
    intro X4 h4e
    refine q_any fun d hd => ?_
    have X5 : Ex H4 (upd H4 d (.dK [])) := Ex.new hd
    have h5d : (upd H4 d (.dK [])) d = some (.dK []) := upd_same
    have hd0 : H d = none := fresh_back (X13.trans X4) hd
    have ned : e ≠ d := fun z => by rw [← z, h4e] at hd; cases hd
    revert X5 h5d
    generalize upd H4 d (.dK []) = H5
    intro X5 h5d
    have X15 := X13.trans (X4.trans X5)
    have h5n := (X4.trans X5) _ _ h3
    have nle : ln ≠ e := fun z => by rw [← z, h3] at he; cases he
    have nld : ln ≠ d := fun z => by rw [← z, X4 _ _ h3] at hd; cases hd
    have hfst := fun i => zip_take (i := i) lx
    refine q_forSq (K := K) (ev_var rfl) (hs.mono X15) (fun i σ' H' => ∃ vk kvs, σ' = [some (.ref x), some rv, some (.ref a), some (.ref ln), some (.ref e), some (.ref d), vk] ∧ Ex H H' ∧ H' ln = some (.lst ((nms ks).map V.str)) ∧ H' e = some (.dK (edK ((ks.zip xs).take i))) ∧ H' d = some (.dK kvs) ∧ kvs.length ≤ i ∧ (∀ n k, kfind (ks.take i) n = some k → ∃ t ys, valV kvs (.inr n) = some (.ref t) ∧ SqT K H' t ys ∧ Paired (fun x f => FAt K T.C_Field f x H') ys (gath (ks.take i) k)) ∧ PrOk (ks.take i) (nms ks) ∧ ∀ j k', j < i → ks[j]? = some k' → fitsK (ks.take j) (nms ks) k' = true) (fun H6 X6 => ⟨none, [], rfl, X15.trans X6, X6 _ _ h5n, (X5.trans X6) _ _ h4e, X6 _ _ h5d, Nat.le_refl _, fun n k z => (by cases z), prNil _, fun j k' z => absurd z (Nat.not_lt_zero _)⟩) (fun i σ' H' _ ⟨_, _, _, z, _⟩ => hs.mono z) ?_ ?_
    · rintro i y σ' H6 hy ⟨vk, kvs, rfl, X6, h6n, h6e, h6d, lk, dd, pk, fk⟩
      obtain ⟨kd, hkd, hky⟩ := pr_at hks hy
      have hky6 := hky.mono X6
      have hkm := List.mem_of_getElem? hkd
      have hil : i < ks.length := (List.getElem?_eq_some_iff.mp hkd).1
      obtain ⟨y', dy, fs', rfl, g1, g2⟩ := kat_name hky6
      have eat : ∀ Hx, Ex H Hx → Hx e = some (.dK (edK ((ks.zip xs).take i))) → EAt K T.C_Field T.C_Kind ((ks.zip xs).take i) e Hx := fun Hx X h => ⟨h, fun m hm => by
        have hm' := List.mem_of_mem_take hm
        obtain ⟨j, hj⟩ := List.getElem?_of_mem hm'
        have hj1 : ks[j]? = some m.1 ∧ xs[j]? = some m.2 := by
          rw [List.getElem?_zip_eq_some] at hj
          exact hj
        obtain ⟨k', hk', hkk⟩ := pr_at hks hj1.2
        rw [hj1.1] at hk'
        cases hk'
        exact ⟨hkk.mono X, (hg' _ (List.mem_of_getElem? hj1.1)).l⟩⟩
      have efst := hfst i
      refine q_when (b := !fitsK (ks.take i) (nms ks) kd) (et_not (et_B (ev_is (ev_call (ea_cons (ev_var rfl) (ea_cons (ev_var rfl) (ea_cons (ev_var rfl) ea_nil))) fun H7 X7 Q' q' E' => ⟨_, e, ln, kd, (ks.zip xs).take i, nms ks, rfl, hky6.mono X7, (hg' _ hkm).l, eat H7 (X6.trans X7) (X7 _ _ h6e), X7 _ _ h6n, fun H8 e8 => q' H8 e8⟩) (by rw [efst])))) (fun q H7 X7 => ?_) (fun q H7 X7 => ?_)
      · have qf : fitsK (ks.take i) (nms ks) kd = false := by simpa using q
        have ef : fb (nms ks) [] ks = some kd.name := fb_take (ks := ks) (l := ks) (e := []) (i := i) (fun j k' hj hk' => by rw [List.nil_append]; exact fk j k' hj hk') hkd (by rw [List.nil_append]; exact qf)
        have er : hres ks dr = .kind kd.name := by unfold hres; rw [ef]
        rw [er] at kk
        exact mko1 (ea_cons (ev_fld (ev_var rfl) (X7 _ _ g1) T.cl_Kind T.na_Kind_name g2) ea_nil) fun d' H8 X8 hd' => kk d' H8 (Kp.of ((X6.trans X7).trans X8)) hd'
      · have qf : fitsK (ks.take i) (nms ks) kd = true := by simpa using q
        have hb := fits_base qf
        have nin : kd.name ∉ (ks.take i).map Kd.name := by
          simp only [fitsK, Bool.and_eq_true, Bool.not_eq_true', decide_eq_false_iff_not] at qf
          exact qf.1
        have X07 := X6.trans X7
        have h7e := X7 _ _ h6e
        refine ⟨_, rfl, _, rfl, _, e, kd, (ks.zip xs).take i, rfl, hky6.mono X7, (hg' _ hkm).l, eat H7 X07 h7e, (by rw [efst]; exact hb), fun l H8 ys hl X8 h8l hpy => ⟨l, ys, rfl, .inl ⟨SqL.of h8l, fun t ht => ?_⟩⟩⟩
        rw [efst] at hpy
        have X9 : Ex H8 (upd H8 t (.tup ys)) := Ex.new ht
        have h9t : (upd H8 t (.tup ys)) t = some (.tup ys) := upd_same
        revert X9 h9t
        generalize upd H8 t (.tup ys) = H9
        intro X9 h9t
        have X79 := X7.trans (X8.trans X9)
        have X09 := X07.trans (X8.trans X9)
        have h9d := X79 _ _ h6d
        have h9e := X79 _ _ h6e
        refine ⟨_, rfl, ⟨_, rfl, y', T.C_Kind, dy, fs', _, rfl, X79 _ _ g1, T.cl_Kind, T.na_Kind_name, g2, d, _, rfl, DPut.k (k := .inr kd.name) h9d (sz_lt (by omega)), ?_⟩⟩
        have KI : KpI K H9 (upd H9 d (.dK (putK kvs (.inr kd.name) (.ref t)))) := kpi_dK h9d (Kp.set (Kp.refl _ _))
        have X10 : Ex H (upd H9 d (.dK (putK kvs (.inr kd.name) (.ref t)))) := Ex.mut X09 hd0
        have h10d : (upd H9 d (.dK (putK kvs (.inr kd.name) (.ref t)))) d = some (.dK (putK kvs (.inr kd.name) (.ref t))) := upd_same
        have h10e : (upd H9 d (.dK (putK kvs (.inr kd.name) (.ref t)))) e = some (.dK (edK ((ks.zip xs).take i))) := (upd_ne ned).trans h9e
        have h10n : (upd H9 d (.dK (putK kvs (.inr kd.name) (.ref t)))) ln = some (.lst ((nms ks).map V.str)) := (upd_ne nld).trans (X79 _ _ h6n)
        have g10 : (upd H9 d (.dK (putK kvs (.inr kd.name) (.ref t)))) y' = some (.ins T.C_Kind dy fs') := KI.i _ _ _ _ (X79 _ _ g1)
        have t10 : SqT K (upd H9 d (.dK (putK kvs (.inr kd.name) (.ref t)))) t ys := KI.t _ _ (SqT.of h9t)
        have p10 : Paired (fun x f => FAt K T.C_Field f x (upd H9 d (.dK (putK kvs (.inr kd.name) (.ref t))))) ys (gath (ks.take i) kd) := Paired.mapP hpy fun _ _ z => (z.mono X9).keep KI
        have d10 : ∀ n k, kfind (ks.take i) n = some k → ∃ t' ys', valV kvs (.inr n) = some (.ref t') ∧ SqT K (upd H9 d (.dK (putK kvs (.inr kd.name) (.ref t)))) t' ys' ∧ Paired (fun x f => FAt K T.C_Field f x (upd H9 d (.dK (putK kvs (.inr kd.name) (.ref t))))) ys' (gath (ks.take i) k) := fun n k q => let ⟨t', ys', z1, z2, z3⟩ := dd n k q; ⟨t', ys', z1, KI.t _ _ (ex_t X79 z2), Paired.mapP z3 fun _ _ z => (z.mono X79).keep KI⟩
        revert X10 h10d h10e h10n g10 t10 p10 d10
        generalize upd H9 d (.dK (putK kvs (.inr kd.name) (.ref t))) = H10
        intro X10 h10d h10e h10n g10 t10 p10 d10
        have tk1 : ks.take (i + 1) = ks.take i ++ [kd] := by rw [List.take_add_one, hkd]; rfl
        have hzi : (ks.zip xs)[i]? = some (kd, .ref y') := by rw [List.getElem?_zip_eq_some]; exact ⟨hkd, hy⟩
        have nv : valV (edK ((ks.zip xs).take i)) (.inr kd.name) = none := by
          have e1 : (valV (edK ((ks.zip xs).take i)) (.inr kd.name)).isSome = false := by
            rw [edK_val, Option.isSome_map]
            have := kfind_ms kd.name ((ks.zip xs).take i)
            rw [efst] at this
            have e2 : (kfind (ks.take i) kd.name).isSome = false := by rw [kfind_mem]; exact decide_eq_false nin
            rw [this, Option.isSome_map] at e2
            exact e2
          exact Option.not_isSome_iff_eq_none.mp (by rw [e1]; decide)
        have ep : putK (edK ((ks.zip xs).take i)) (.inr kd.name) (.ref y') = edK ((ks.zip xs).take (i + 1)) := by
          rw [putK_new _ nv, List.take_add_one, hzi]
          unfold edK
          rw [List.map_append]; rfl
        have lze : (edK ((ks.zip xs).take i)).length ≤ i := by unfold edK; rw [List.length_map]; exact List.length_take_le _ _
        refine s_dput h10e (ev_var rfl) (ev_var rfl) (ev_fld (ev_var rfl) g10 T.cl_Kind T.na_Kind_name g2) (by omega) fun H11 X11 => ?_
        rw [ep]
        have KI2 : KpI K H11 (upd H11 e (.dK (edK ((ks.zip xs).take (i + 1))))) := kpi_dK (X11 _ _ h10e) (Kp.set (Kp.refl _ _))
        refine ⟨_, putK kvs (.inr kd.name) (.ref t), rfl, Ex.mut (X10.trans X11) he0, (upd_ne nle).trans (X11 _ _ h10n), upd_same, (upd_ne ned.symm).trans (X11 _ _ h10d), ?_, fun n k q => ?_, ?_, fun j k' hj hk' => ?_⟩
        · have : (putK kvs (.inr kd.name) (.ref t)).length ≤ kvs.length + 1 := by
            unfold putK
            split
            · rw [List.length_map]; omega
            · rw [List.length_append]; exact Nat.le_refl _
          omega
        · rw [tk1] at q ⊢
          rcases kfind_snoc q with z | ⟨z1, z2, z3⟩
          · obtain ⟨t', ys', z1, z2, z3⟩ := d10 n k z
            have hkm' := (kfind_some z).1
            have hn' := (kfind_some z).2
            have nn' : n ≠ kd.name := fun e' => nin (by rw [← e', ← hn']; exact List.mem_map_of_mem hkm')
            rw [gath_app (pk.b k hkm')]
            exact ⟨t', ys', by rw [valV_put, if_neg (kne nn')]; exact z1, KI2.t _ _ (ex_t X11 z2), Paired.mapP z3 fun _ _ z => (z.mono X11).keep KI2⟩
          · subst z2
            rw [gath_app hb]
            exact ⟨t, ys, by rw [valV_put, if_pos (by rw [z3])], KI2.t _ _ (ex_t X11 t10), Paired.mapP p10 fun _ _ z => (z.mono X11).keep KI2⟩
        · rw [tk1]
          exact pk.snoc qf
        · by_cases e' : j = i
          · subst e'
            rw [hkd] at hk'
            cases hk'
            exact qf
          · exact fk j k' (by omega) hk'
    · rintro σ' H6 ⟨vk, kvs, rfl, X6, h6n, h6e, h6d, lk, dd, pk, fk⟩
      have tall : ks.take xs.length = ks := by rw [lx]; exact List.take_length
      have zall : (ks.zip xs).take xs.length = ks.zip xs := List.take_of_length_le (by rw [List.length_zip, lx, Nat.min_self]; exact Nat.le_refl _)
      rw [tall] at dd pk
      rw [zall] at h6e
      have hsok := prOk_hs pk hg' q1'.2
      have ezf := zip_fst lx
      have efb : fb (nms ks) [] ks = none := fb_none fun j k' hk' => by
        rw [List.nil_append]
        exact fk j k' (by have := (List.getElem?_eq_some_iff.mp hk').1; omega) hk'
      have eat6 : EAt K T.C_Field T.C_Kind (ks.zip xs) e H6 := ⟨h6e, fun m hm => by
        obtain ⟨j, hj⟩ := List.getElem?_of_mem hm
        have hj1 : ks[j]? = some m.1 ∧ xs[j]? = some m.2 := by
          rw [List.getElem?_zip_eq_some] at hj
          exact hj
        obtain ⟨k', hk', hkk⟩ := pr_at hks hj1.2
        rw [hj1.1] at hk'
        cases hk'
        exact ⟨hkk.mono X6, (hg' _ (List.mem_of_getElem? hj1.1)).l⟩⟩
      have dat6 : DAt K T.C_Field ks d H6 := ⟨kvs, h6d, by omega, dd⟩
      have hx6 := X6 _ _ hx
      refine q_setF (ev_var rfl) (ev_var rfl) hx6 T.cl_House T.na_House_by_name (by decide) fun H7 X7 => ?_
      have K7 := kp_ins (x := x) (C := T.C_House) (dx := dx) (fs := putF "by_name" (.ref e) []) (Kp.of (Ex.refl H6)) X7
      refine q_setF (ev_var rfl) (ev_var rfl) upd_same T.cl_House T.na_House_described (Nat.lt_of_le_of_lt (len_put (n := 0) (Nat.le_refl _)) (by decide)) fun H8 X8 => ?_
      have K8 := kp_ins (C := T.C_House) (dx := dx) (fs := putF "described" (.ref d) (putF "by_name" (.ref e) [])) K7 X8
      have nlx : ln ≠ x := fun z => by rw [z, hx6] at h6n; cases h6n
      have h8n := K8 _ _ nlx h6n
      refine q_setFX (P := fun y H' => ∃ wt, y = .ref wt ∧ SqT K H' wt ((nms ks).map V.str)) (ex_tupOf (ev_var rfl) (.inl (SqL.of h8n))) (fun H9 X9 => ev_var rfl) upd_same T.cl_House T.na_House_names (Nat.lt_of_le_of_lt (len_put (n := 1) (len_put (n := 0) (Nat.le_refl _))) (by decide)) (fun y H9 H10 e' ⟨wt, h1, h2⟩ => ⟨wt, h1, ex_t e' h2⟩) fun y H9 X9 ⟨nt, ey, hnt⟩ => ?_
      subst ey
      have K9 := kp_ins (C := T.C_House) (dx := dx) (fs := putF "names" (.ref nt) (putF "described" (.ref d) (putF "by_name" (.ref e) []))) K8 X9
      have hnt9 := kp_tup (gs := putF "names" (.ref nt) (putF "described" (.ref d) (putF "by_name" (.ref e) []))) hnt (X9 _ _ upd_same)
      have hh9 : HpAt K T.C_Field T.C_Kind T.C_House (ks.zip xs) x (upd H9 x (.ins T.C_House dx (putF "names" (.ref nt) (putF "described" (.ref d) (putF "by_name" (.ref e) []))))) := by
        refine ⟨by rw [ezf]; exact hsok, dx, _, e, d, nt, upd_same, ?_, ?_, lk_same, fun m hm => ?_, eat6.kpx hx6 K9, by rw [ezf]; exact dat6.kpx hx6 K9, by rw [ezf]; exact hnt9⟩
        · rw [lk_ne (by decide +kernel), lk_ne (by decide +kernel), lk_same]
        · rw [lk_ne (by decide +kernel), lk_same]
        · have : ∀ m ∈ MTH, ¬ m = "names" ∧ ¬ m = "described" ∧ ¬ m = "by_name" := by decide +kernel
          obtain ⟨z1, z2, z3⟩ := this m hm
          rw [lk_ne z1, lk_ne z2, lk_ne z3]; rfl
      have mth9 : ∀ m ∈ MTH, (putF "names" (.ref nt) (putF "described" (.ref d) (putF "by_name" (.ref e) []))).lookup m = none := fun m hm => by
        have : ∀ m ∈ MTH, ¬ m = "names" ∧ ¬ m = "described" ∧ ¬ m = "by_name" := by decide +kernel
        obtain ⟨z1, z2, z3⟩ := this m hm
        rw [lk_ne z1, lk_ne z2, lk_ne z3]; rfl
      have hx9 : ∃ fs, (upd H9 x (.ins T.C_House dx (putF "names" (.ref nt) (putF "described" (.ref d) (putF "by_name" (.ref e) []))))) x = some (.ins T.C_House dx fs) ∧ fs.length < 1000 ∧ fs.lookup ("by_name" : Str) = some (.ref e) ∧ fs.lookup ("described" : Str) = some (.ref d) ∧ fs.lookup ("names" : Str) = some (.ref nt) ∧ ∀ m ∈ MTH, fs.lookup m = none := ⟨_, upd_same, Nat.lt_of_le_of_lt (len_put (n := 2) (len_put (n := 1) (len_put (n := 0) (Nat.le_refl _)))) (by decide), by rw [lk_ne (by decide +kernel), lk_ne (by decide +kernel), lk_same], by rw [lk_ne (by decide +kernel), lk_same], lk_same, mth9⟩
      have K09 : Kp x H (upd H9 x (.ins T.C_House dx (putF "names" (.ref nt) (putF "described" (.ref d) (putF "by_name" (.ref e) []))))) := Kp.trans (Kp.of X6) K9
      have e9 : (upd H9 x (.ins T.C_House dx (putF "names" (.ref nt) (putF "described" (.ref d) (putF "by_name" (.ref e) []))))) e = some (.dK (edK (ks.zip xs))) := (eat6.kpx hx6 K9).h
      revert hh9 hx9 K09 e9 K9 hnt9
      generalize upd H9 x (.ins T.C_House dx (putF "names" (.ref nt) (putF "described" (.ref d) (putF "by_name" (.ref e) [])))) = H10
      intro K9 hnt9 hh9 hx9 K09 e9
      have hs10 := sqB_kpx hx hs K09
      refine q_forSq (K := K) (ev_var rfl) hs10 (fun i σ' H' => ∃ vk, σ' = [some (.ref x), some rv, some (.ref a), some (.ref ln), some (.ref e), some (.ref d), vk] ∧ Ex H10 H' ∧ ∀ j k', j < i → ks[j]? = some k' → (k'.frozen && wrongK ks k'.name) = false) (fun H11 X11 => ⟨_, rfl, X11, fun j k' z => absurd z (Nat.not_lt_zero _)⟩) (fun i σ' H' _ ⟨_, _, z, _⟩ => hs10.mono z) ?_ ?_
      · rintro i y σ' H11 hy ⟨vk, rfl, X11, fw⟩
        obtain ⟨kd, hkd, hky⟩ := pr_at hks hy
        have hkm := List.mem_of_getElem? hkd
        obtain ⟨y', dy, fs', rfl, g1, g5, g2⟩ := kat_frozen ((hky.kpx hx K09).mono X11)
        have hfk : kfind ((ks.zip xs).map Prod.fst) kd.name = some kd := by rw [ezf]; exact kfind_self hsok.nd hkm
        have tst : EvT (tAnd (tB (tFld K (tVar 6) "frozen")) (tB (tMeth T.C_House "leads_wrongly" (spWr K T.C_Field T.C_Kind T.C_House) [] E0 (tVar 0) (tCons (tFld K (tVar 6) "name") tNil)))) [some (.ref x), some rv, some (.ref a), some (.ref ln), some (.ref e), some (.ref d), some (.ref y')] H11 (kd.frozen && wrongK ks kd.name) := by
          have wr := ev_wr (E := E0) (σ := [some (.ref x), some rv, some (.ref a), some (.ref ln), some (.ref e), some (.ref d), some (.ref y')]) (to := tVar 0) (tn := tFld K (tVar 6) "name") (ev_var rfl) (ev_fld (ev_var rfl) g1 T.cl_Kind T.na_Kind_name g2) (hh9.mono X11) (knS_pl (hg' _ hkm).n) ⟨kd, hfk⟩
          rw [ezf] at wr
          exact et_and (et_B (ev_fld (ev_var rfl) g1 T.cl_Kind T.na_Kind_frozen g5)) fun _ => et_B wr
        unfold gName
        refine s_when tst (fun q H12 X12 => ?_) (fun q H12 X12 => ?_)
        · have efw := wrong_first (ks := ks) fw hkd q
          have er : hres ks dr = .kind kd.name := by unfold hres; rw [efb]; simp only [efw]
          rw [er] at kk
          exact mko1 (ea_cons (ev_fld (ev_var rfl) (X12 _ _ g1) T.cl_Kind T.na_Kind_name g2) ea_nil) fun d' H13 X13 hd' => kk d' H13 (Kp.trans K09 (Kp.of (X11.trans (X12.trans X13)))) hd'
        · refine ⟨_, rfl, X11.trans X12, fun j k' hj hk' => ?_⟩
          by_cases e' : j = i
          · subst e'
            rw [hkd] at hk'
            cases hk'
            exact q
          · exact fw j k' (by omega) hk'
      · rintro σ' H11 ⟨vk, rfl, X11, fw⟩
        have efw : firstWrong ks ks = none := wrong_none fun j k' hk' => fw j k' (by have := (List.getElem?_eq_some_iff.mp hk').1; omega) hk'
        have er : hres ks dr = if rootOk ks dr = true then .fine else .root := by unfold hres; rw [efb]; simp only [efw]
        have K011 : Kp x H H11 := Kp.trans K09 (Kp.of X11)
        have hh11 := hh9.mono X11
        have pr11 : PV K H11 rv dr := pr.kp (off_ins hx) K011
        have einn : inNames ((ks.zip xs).map Prod.fst) dr = inNames ks dr := by rw [ezf]
        obtain ⟨fs10, hx10, lf10, l1, l2, l3, l4⟩ := hx9
        refine q_when (b := !rootOk ks dr) (et_is (et_or (a := !inNames ks dr) (b := !rootOk ks dr) (et_is (et_test (ev_op (ev_var rfl) (ev_var rfl) fun H12 X12 Q' q' => ⟨x, dx, fs10, rfl, (X11.trans X12) _ _ hx10, x, rv, dr, _, rfl, hh11.mono X12, pr11.mono X12, fun H13 X13 => ⟨_, rfl, q' H13 X13⟩⟩)) (by rw [einn]; rfl)) fun qn => ?_) ?_) (fun q H12 X12 => ?_) (fun q H12 X12 => ?_)
        · have qn' : inNames ks dr = true := by simpa using qn
          cases dr with
          | str z =>
            obtain ⟨rfl, _⟩ := pv_str pr
            have hz' : z ∈ nms ks := of_decide_eq_true qn'
            obtain ⟨k, hk⟩ := kfind_in hz'
            have hk2 : kfind ((ks.zip xs).map Prod.fst) z = some k := by rw [ezf]; exact hk
            obtain ⟨dx', fs', e', d', n', h1, h2, h3, h4, h0, h5, h6, h7⟩ := id hh11.at_
            have eatx : EAt K T.C_Field T.C_Kind (ks.zip xs) e H11 := ⟨X11 _ _ e9, fun m hm => (h5.k m hm)⟩
            obtain ⟨v, hv, hkv, _, _⟩ := eatx.find hk2
            obtain ⟨y', dy, fs2, rfl, g1, g2⟩ := kat_key hkv
            refine et_is (et_test (ev_op (ev_fld (ev_dgetK (ev_var rfl) (ev_var rfl) eatx.h hv) g1 T.cl_Kind T.na_Kind_key g2) ev_c rv_notN)) ?_
            unfold rootOk
            simp only [hk]
            cases k.key <;> rfl
          | _ => cases qn'
        · have : inNames ks dr = false → rootOk ks dr = false := fun z => by
            cases dr with
            | str y =>
              have hy : y ∉ nms ks := of_decide_eq_false z
              unfold rootOk
              have : (kfind ks y).isSome = false := by rw [kfind_mem]; exact decide_eq_false hy
              have e0 : kfind ks y = none := Option.not_isSome_iff_eq_none.mp (by rw [this]; decide)
              simp only [e0]
            | _ => rfl
          cases h1 : inNames ks dr with
          | false => rw [this h1]; rfl
          | true => simp
        · have q' : rootOk ks dr = false := by simpa using q
          rw [q'] at er
          rw [er] at kk
          exact mko1 (ea_cons (ev_var rfl) ea_nil) fun d' H13 X13 hd' => kk d' H13 (Kp.trans K011 (Kp.of (X12.trans X13))) hd'
        · have q' : rootOk ks dr = true := by simpa using q
          rw [q'] at er
          rw [er] at kk
          have hx12 := (X11.trans X12) _ _ hx10
          refine s_setF (ev_var rfl) (ev_var rfl) hx12 T.cl_House T.na_House_root lf10 fun H13 X13 => ?_
          have hh13 := hh11.mono (X12.trans X13)
          have hx13 := X13 _ _ hx12
          refine kk _ (Kp.set (Kp.trans K011 (Kp.of (X12.trans X13)))) ?_ ⟨dx, _, upd_same, lk_same⟩
          have Kf : Kp x H6 (upd H13 x (.ins T.C_House dx (putF "root" rv fs10))) := Kp.set (Kp.trans K9 (Kp.of (X11.trans (X12.trans X13))))
          have Kg : Kp x H10 (upd H13 x (.ins T.C_House dx (putF "root" rv fs10))) := Kp.set (Kp.of (X11.trans (X12.trans X13)))
          have nr : ∀ m ∈ MTH, ¬ m = "root" := by decide +kernel
          refine ⟨by rw [ezf]; exact hsok, dx, _, e, d, nt, upd_same, by rw [lk_ne (by decide +kernel)]; exact l1, by rw [lk_ne (by decide +kernel)]; exact l2, by rw [lk_ne (by decide +kernel)]; exact l3, fun m hm => by rw [lk_ne (nr m hm)]; exact l4 m hm, eat6.kpx hx6 Kf, by rw [ezf]; exact dat6.kpx hx6 Kf, by rw [ezf]; exact (Kps.kp (off_ins hx10) Kg).t _ _ hnt9⟩
end
end K03

namespace K03
open PySem L2 Way Evl
/-- a row: a dict of seven texts -/
def rowK (n b z h k r o : V) : List (Key × V) := [(.inr "name", n), (.inr "base", b), (.inr "frozen", z), (.inr "heirs", h), (.inr "key", k), (.inr "registered", r), (.inr "own", o)]
section
variable {n b z h k r o y : V}
theorem rk_name : valV (rowK n b z h k r o) (.inr "name") = some n := valV_pos rfl
theorem rk_base : valV (rowK n b z h k r o) (.inr "base") = some b := (valV_neg (kne (by decide +kernel))).trans (valV_pos rfl)
theorem rk_frozen : valV (rowK n b z h k r o) (.inr "frozen") = some z := (valV_neg (kne (by decide +kernel))).trans ((valV_neg (kne (by decide +kernel))).trans (valV_pos rfl))
theorem rk_heirs : valV (rowK n b z h k r o) (.inr "heirs") = some h := (valV_neg (kne (by decide +kernel))).trans ((valV_neg (kne (by decide +kernel))).trans ((valV_neg (kne (by decide +kernel))).trans (valV_pos rfl)))
theorem rk_key : valV (rowK n b z h k r o) (.inr "key") = some k := (valV_neg (kne (by decide +kernel))).trans ((valV_neg (kne (by decide +kernel))).trans ((valV_neg (kne (by decide +kernel))).trans ((valV_neg (kne (by decide +kernel))).trans (valV_pos rfl))))
theorem rk_registered : valV (rowK n b z h k r o) (.inr "registered") = some r := (valV_neg (kne (by decide +kernel))).trans ((valV_neg (kne (by decide +kernel))).trans ((valV_neg (kne (by decide +kernel))).trans ((valV_neg (kne (by decide +kernel))).trans ((valV_neg (kne (by decide +kernel))).trans (valV_pos rfl)))))
theorem rk_own : valV (rowK n b z h k r o) (.inr "own") = some o := (valV_neg (kne (by decide +kernel))).trans ((valV_neg (kne (by decide +kernel))).trans ((valV_neg (kne (by decide +kernel))).trans ((valV_neg (kne (by decide +kernel))).trans ((valV_neg (kne (by decide +kernel))).trans ((valV_neg (kne (by decide +kernel))).trans (valV_pos rfl))))))
theorem rp_name : putK (rowK n b z h k r o) (.inr "name") y = rowK y b z h k r o := by
  rw [put_has (by rw [rk_name]; rfl)]
  unfold rowK
  simp only [List.map_cons, List.map_nil]
  rw [if_pos True.intro, kcons_ne (by decide +kernel), kcons_ne (by decide +kernel), kcons_ne (by decide +kernel), kcons_ne (by decide +kernel), kcons_ne (by decide +kernel), kcons_ne (by decide +kernel)]
theorem rp_base : putK (rowK n b z h k r o) (.inr "base") y = rowK n y z h k r o := by
  rw [put_has (by rw [rk_base]; rfl)]
  unfold rowK
  simp only [List.map_cons, List.map_nil]
  rw [kcons_ne (by decide +kernel), if_pos True.intro, kcons_ne (by decide +kernel), kcons_ne (by decide +kernel), kcons_ne (by decide +kernel), kcons_ne (by decide +kernel), kcons_ne (by decide +kernel)]
theorem rp_frozen : putK (rowK n b z h k r o) (.inr "frozen") y = rowK n b y h k r o := by
  rw [put_has (by rw [rk_frozen]; rfl)]
  unfold rowK
  simp only [List.map_cons, List.map_nil]
  rw [kcons_ne (by decide +kernel), kcons_ne (by decide +kernel), if_pos True.intro, kcons_ne (by decide +kernel), kcons_ne (by decide +kernel), kcons_ne (by decide +kernel), kcons_ne (by decide +kernel)]
theorem rp_heirs : putK (rowK n b z h k r o) (.inr "heirs") y = rowK n b z y k r o := by
  rw [put_has (by rw [rk_heirs]; rfl)]
  unfold rowK
  simp only [List.map_cons, List.map_nil]
  rw [kcons_ne (by decide +kernel), kcons_ne (by decide +kernel), kcons_ne (by decide +kernel), if_pos True.intro, kcons_ne (by decide +kernel), kcons_ne (by decide +kernel), kcons_ne (by decide +kernel)]
theorem rp_key : putK (rowK n b z h k r o) (.inr "key") y = rowK n b z h y r o := by
  rw [put_has (by rw [rk_key]; rfl)]
  unfold rowK
  simp only [List.map_cons, List.map_nil]
  rw [kcons_ne (by decide +kernel), kcons_ne (by decide +kernel), kcons_ne (by decide +kernel), kcons_ne (by decide +kernel), if_pos True.intro, kcons_ne (by decide +kernel), kcons_ne (by decide +kernel)]
theorem rp_registered : putK (rowK n b z h k r o) (.inr "registered") y = rowK n b z h k y o := by
  rw [put_has (by rw [rk_registered]; rfl)]
  unfold rowK
  simp only [List.map_cons, List.map_nil]
  rw [kcons_ne (by decide +kernel), kcons_ne (by decide +kernel), kcons_ne (by decide +kernel), kcons_ne (by decide +kernel), kcons_ne (by decide +kernel), if_pos True.intro, kcons_ne (by decide +kernel)]
theorem rp_own : putK (rowK n b z h k r o) (.inr "own") y = rowK n b z h k r y := by
  rw [put_has (by rw [rk_own]; rfl)]
  unfold rowK
  simp only [List.map_cons, List.map_nil]
  rw [kcons_ne (by decide +kernel), kcons_ne (by decide +kernel), kcons_ne (by decide +kernel), kcons_ne (by decide +kernel), kcons_ne (by decide +kernel), kcons_ne (by decide +kernel), if_pos True.intro]
theorem rk_made : mergeK [] (rowK n b z h k r o) = rowK n b z h k r o := by
  have h : ∀ (a b : List (Key × V)) (p : Key × V), valV a p.1 = none → mergeK a (p :: b) = mergeK (a ++ [p]) b := fun a b p e => by
    show mergeK (putK a p.1 p.2) b = _
    rw [putK_new _ e]
  unfold rowK
  rw [h _ _ _ valV_nil,
    h _ _ _ (by simp only [List.nil_append, List.cons_append]; rw [valV_neg (kne (by decide +kernel)), valV_nil]),
    h _ _ _ (by simp only [List.nil_append, List.cons_append]; rw [valV_neg (kne (by decide +kernel)), valV_neg (kne (by decide +kernel)), valV_nil]),
    h _ _ _ (by simp only [List.nil_append, List.cons_append]; rw [valV_neg (kne (by decide +kernel)), valV_neg (kne (by decide +kernel)), valV_neg (kne (by decide +kernel)), valV_nil]),
    h _ _ _ (by simp only [List.nil_append, List.cons_append]; rw [valV_neg (kne (by decide +kernel)), valV_neg (kne (by decide +kernel)), valV_neg (kne (by decide +kernel)), valV_neg (kne (by decide +kernel)), valV_nil]),
    h _ _ _ (by simp only [List.nil_append, List.cons_append]; rw [valV_neg (kne (by decide +kernel)), valV_neg (kne (by decide +kernel)), valV_neg (kne (by decide +kernel)), valV_neg (kne (by decide +kernel)), valV_neg (kne (by decide +kernel)), valV_nil]),
    h _ _ _ (by simp only [List.nil_append, List.cons_append]; rw [valV_neg (kne (by decide +kernel)), valV_neg (kne (by decide +kernel)), valV_neg (kne (by decide +kernel)), valV_neg (kne (by decide +kernel)), valV_neg (kne (by decide +kernel)), valV_neg (kne (by decide +kernel)), valV_nil])]
  rfl
end
/-! rows on the heap -/
def FtAt (K : PySem.W.Frag) (f : Fd) (v : V) (H : Hp) : Prop := ∃ t wt, v = .ref t ∧ SqT K H t [.str f.name, .str f.mode, oV f.tgt, .int f.dfl, .ref wt] ∧ SqT K H wt (f.was.map V.str)
theorem ftAt_mono {K : PySem.W.Frag} : Mon (FtAt K) := fun _ _ _ _ e ⟨t, wt, h1, h2, h3⟩ => ⟨t, wt, h1, ex_t e h2, ex_t e h3⟩
def kdK (r : Kd) (o : Addr) : List (Key × V) := rowK (.str r.name) (oV r.base) (.bl r.frozen) (.bl r.heirs) (oV r.key) (.bl r.registered) (.ref o)
def RowAt (K : PySem.W.Frag) (r : Kd) (v : V) (H : Hp) : Prop := ∃ a o xs, v = .ref a ∧ H a = some (.dK (kdK r o)) ∧ H o = some (.lst xs) ∧ Paired (fun x f => FtAt K f x H) xs r.fields
theorem rowAt_mono {K : PySem.W.Frag} : Mon (RowAt K) := fun _ _ _ _ e ⟨a, o, xs, h1, h2, h3, h4⟩ => ⟨a, o, xs, h1, e _ _ h2, e _ _ h3, Paired.mapP h4 fun _ _ q => ftAt_mono _ _ _ _ e q⟩
section
variable {K : PySem.W.Frag} {σ : L2.St} {H : Hp} {te tl : TE} {t : TT} {α : Type} {P : α → V → Hp → Prop} {S : List α}
theorem given_fm {xs : List V} (hlen : xs.length = S.length) (g : α → Bool) (w : α → V) : given xs.length (fun i => (S[i]?.map g).getD false) (fun i => (S[i]?.map w).getD .non) = (S.filter g).map w := by
  rw [hlen]
  unfold given
  clear hlen
  have key : ∀ n, n ≤ S.length → ((List.range n).filter fun i => (S[i]?.map g).getD false).map (fun i => (S[i]?.map w).getD .non) = ((S.take n).filter g).map w := by
    intro n
    induction n with
    | zero => intro _; rfl
    | succ m ih =>
      intro hm
      have hm' : m < S.length := by omega
      rw [List.range_succ, List.filter_append, List.map_append, ih (by omega), List.take_add_one, List.getElem?_eq_getElem hm', List.filter_append, List.map_append]
      congr 1
      have e1 : (S[m]?.map g).getD false = g S[m] := by rw [List.getElem?_eq_getElem hm']; rfl
      have e2 : (S[m]?.map w).getD .non = w S[m] := by rw [List.getElem?_eq_getElem hm']; rfl
      cases hg : g S[m] with
      | true =>
        rw [List.filter_cons_of_pos (by rw [e1, hg])]
        simp [hg, e2]
      | false =>
        rw [List.filter_cons_of_neg (by rw [e1, hg]; decide)]
        simp [hg]
  have := key S.length (Nat.le_refl _)
  rw [List.take_length] at this
  exact this
/-- [e for x in l if t] -/
theorem el_fmL {u : V} {j : Nat} {vs : List Nat} {g : α → Bool} {w : α → V} (m : Mon P) (h : Ev tl σ H u) (hp : LAt P S u H) (hz : S.length ≤ 40000) (hw : ∀ x, wipe ((wipe σ vs).set j (some x)) vs = wipe σ vs)
    (ht : ∀ (x : V) (i : α) H1, Ex H H1 → i ∈ S → P i x H1 → EvT t ((wipe σ vs).set j (some x)) H1 (g i)) (he : ∀ (x : V) (i : α) H1, Ex H H1 → i ∈ S → P i x H1 → Ev te ((wipe σ vs).set j (some x)) H1 (w i)) : EvL (tLc (iList K tl) (gName j) t te vs) σ H ((S.filter g).map w) := by
  obtain ⟨p, xs, rfl, hl, hx⟩ := hp
  have hlen : xs.length = S.length := Paired.length hx
  rw [← given_fm hlen g w]
  refine el_lcL (K := K) _ _ h (sq_of hl) (by omega) hw (fun i x H2 e2 hi => ?_) (fun i x H2 e2 hi _ => ?_)
  · obtain ⟨y, hy, py⟩ := pr_at hx hi
    rw [hy]
    exact ht x y H2 e2 (List.mem_of_getElem? hy) (m _ _ _ _ e2 py)
  · obtain ⟨y, hy, py⟩ := pr_at hx hi
    rw [hy]
    exact he x y H2 e2 (List.mem_of_getElem? hy) (m _ _ _ _ e2 py)
end
/-- the rows at l -/
abbrev RsAt (K : PySem.W.Frag) (rs : List Kd) (l : Addr) (H : Hp) : Prop := LAt (RowAt K) rs (.ref l) H
section
variable {K : PySem.W.Frag} {σ : L2.St} {H : Hp} {te : TE} {v : V} {r : Kd}
theorem ev_rk {f : Str} {u : V} (h : Ev te σ H v) (hr : RowAt K r v H) (hv : ∀ o, valV (kdK r o) (.inr f) = some u) : Ev (tDGet te (tC (.str f))) σ H u := by
  obtain ⟨a, o, xs, rfl, h1, _⟩ := hr
  exact ev_dgetK h ev_c h1 (hv o)
theorem ev_name (h : Ev te σ H v) (hr : RowAt K r v H) : Ev (tDGet te (tC (.str "name"))) σ H (.str r.name) := ev_rk h hr fun _ => rk_name
theorem ev_base (h : Ev te σ H v) (hr : RowAt K r v H) : Ev (tDGet te (tC (.str "base"))) σ H (oV r.base) := ev_rk h hr fun _ => rk_base
theorem ev_frozen (h : Ev te σ H v) (hr : RowAt K r v H) : Ev (tDGet te (tC (.str "frozen"))) σ H (.bl r.frozen) := ev_rk h hr fun _ => rk_frozen
theorem ev_heirs (h : Ev te σ H v) (hr : RowAt K r v H) : Ev (tDGet te (tC (.str "heirs"))) σ H (.bl r.heirs) := ev_rk h hr fun _ => rk_heirs
theorem ev_key (h : Ev te σ H v) (hr : RowAt K r v H) : Ev (tDGet te (tC (.str "key"))) σ H (oV r.key) := ev_rk h hr fun _ => rk_key
end
theorem s_ix0 {K : PySem.W.Frag} {σ : L2.St} {H : Hp} {tl : TE} {D : Ends} {P : V → Hp → Prop} (h : EvN tl σ H P) (k : ∀ p H1, H p = none → Ex H H1 → P (.ref p) H1 → ∃ xs v, H1 p = some (.lst xs) ∧ xs[0]? = some v ∧ D.rt v H1) : tRet (tOp (rIxL K) tl (tC (.int 0))) D σ H :=
  h H (Ex.refl H) _ fun p H1 hp X1 q => by
    obtain ⟨xs, v, h1, h2, h3⟩ := k p H1 hp X1 q
    exact ⟨p, xs, _, v, rfl, rfl, sq_of h1, at_of (j := 0) rfl h2, h3⟩
theorem pr_at' {α : Type} {R : V → α → Prop} : ∀ {xs : List V} {S : List α} {i : Nat} {y : α}, Paired R xs S → S[i]? = some y → ∃ x, xs[i]? = some x ∧ R x y
  | _, _, _, _, .nil, h => by cases h
  | _, _, 0, _, .cons a _, h => by cases h; exact ⟨_, rfl, a⟩
  | _, _, i + 1, _, .cons _ r, h => pr_at' (i := i) r h
theorem pr_append {α : Type} {R : V → α → Prop} {xs ys : List V} {S T : List α} (h : Paired R xs S) (k : Paired R ys T) : Paired R (xs ++ ys) (S ++ T) := by
  induction h with
  | nil => exact k
  | cons a _ ih => exact .cons a ih
theorem FnOk.imp {P : Program} {w : World} {K : PySem.W.Frag} {mg : Str → Option Value} {base : Heap} {CX : CXT} {k : Nat} {f : Addr} {fd : FuncData} {ps : List Str} {sp sp' : Sp} (F : FnOk P w K mg base CX k f fd ps sp) (h : ∀ vs H Q E, sp' vs H Q E → sp vs H Q E) : FnOk P w K mg base CX k f fd ps sp' :=
  ⟨fun vs H Q E q => F.len vs H Q E (h _ _ _ _ q), fun A outer s H args us vs Q E hr e b r q => F.run A outer s H args us vs Q E hr e b r (h _ _ _ _ q)⟩
def spRow (K : PySem.W.Frag) : Sp := fun vs H Q _ => ∃ (l : Addr) (n : Str) (rs : List Kd) (r : Kd), vs = [.ref l, .str n] ∧ RsAt K rs l H ∧ rs.length ≤ 100 ∧ kfind rs n = some r ∧ ∀ v H', Ex H H' → RowAt K r v H' → Q v H'
/-- its base stands there and has none -/
def bOk (rs : List Kd) (r : Kd) : Prop := ∀ b, r.base = some b → ∃ rb, kfind rs b = some rb ∧ rb.base = none
def spAll (K : PySem.W.Frag) (ok : List Kd → Kd → Prop) : Sp := fun vs H Q _ => ∃ (l : Addr) (n : Str) (rs : List Kd) (r : Kd), vs = [.ref l, .str n] ∧ RsAt K rs l H ∧ rs.length ≤ 100 ∧ kfind rs n = some r ∧ ok rs r ∧ (∀ k ∈ rs, k.fields.length ≤ 1000) ∧ ∀ p H', H p = none → Ex H H' → LAt (FtAt K) (gath rs r) (.ref p) H' → Q (.ref p) H'
/-- the names of the rows that a target admits -/
def admL (rs : List Kd) (t : Str) : List Str := (rs.filter fun r => decide (t = "any") || (decide (t = r.name) || decide (r.base = some t))).map Kd.name
def spAdm (K : PySem.W.Frag) : Sp := fun vs H Q _ => ∃ (l : Addr) (t : Str) (rs : List Kd), vs = [.ref l, .str t] ∧ RsAt K rs l H ∧ rs.length ≤ 100 ∧ ∀ p H', H p = none → Ex H H' → H' p = some (.lst ((admL rs t).map V.str)) → Q (.ref p) H'
theorem adm_eq {rs : List Kd} (nd : (nms rs).Nodup) (t : Str) : admL rs t = admK rs t := by
  unfold admL admK
  by_cases h : t = "any"
  · rw [if_pos h, List.filter_eq_self.mpr fun r _ => by rw [decide_eq_true h]; rfl]; rfl
  · rw [if_neg h]
    unfold nms
    rw [List.filter_map]
    congr 1
    refine List.filter_congr fun r hr => ?_
    have := kfind_self nd hr
    simp only [Function.comp, this, decide_eq_false h, Bool.false_or]
    congr 1
    exact decide_eq_decide.mpr eq_comm
section
variable {P : Program} {w : World} {K : PySem.W.Frag} {mg : Str → Option Value} {base : Heap}
theorem ok_row (T : Txt P K mg) : FnOk P w K mg base CX0 1 T.f_row T.d_row P_row (spRow K) := by
  refine T.F_row.ok sc_row (fun vs H Q E h => ?_) (fun cdv A outer s H vs Q E hr h => ?_)
  · obtain ⟨l, n, rs, r, rfl, _⟩ := h
    rfl
  · obtain ⟨l, n, rs, r, rfl, hl, hz, hf, kont⟩ := h
    refine ⟨_, (pss_one (ps_ret (pe_ix ix_list (pe_lc (own := [("_law_row_here", 2)]) (g := gName 2) (by rfl) sc_row.nd (pi_list (pv 0)) (blkOk_by (own := [("_law_row_here", 2)]) (N := N_row) (sc := defScope s_row) (by decide +kernel)) (fun _ _ _ _ _ => (pg_name (i := 2) sc_row.nd rfl (Or.inl rfl))) (fun _ _ _ _ _ => (pts_one (pt_cmpR op_eq (pe_dget (hu_of hr) (pv 2) pe_str (fun _ _ => rfl)) (pv 1) (nomark _)))) (fun _ _ _ _ _ => (pv 2))) pe_int (fun _ _ => rfl)))), ?_⟩
    refine s_ix0 (en_fltL (K := K) (g := fun r => decide (r.name = n)) rowAt_mono (ev_var rfl) hl (by omega) (by show 2 < 3; decide) (fun _ => rfl) (fun x r H1 X1 hr hx => et_is (et_test (ev_op (ev_name (ev_var rfl) hx) (ev_var rfl) (rv_eq rfl))) (by simp))) fun p H1 hp X1 ⟨p', xs, e, h1, hpx⟩ => ?_
    cases e
    have hh : (rs.filter fun r => decide (r.name = n))[0]? = some r := by
      have : (rs.filter fun r => decide (r.name = n)).head? = some r := by rw [List.head?_filter]; exact hf
      rw [← List.head?_eq_getElem?]; exact this
    obtain ⟨x, hx0, hx⟩ := pr_at' hpx hh
    exact ⟨_, x, h1, hx0, kont x H1 X1 hx⟩
/-- as it is called of itself without an end: never -/
theorem ok_all_fieldsF (T : Txt P K mg) : FnOk P w K mg base CX0 1 T.f_all_fields T.d_all_fields P_all_fields (fun _ _ _ _ => False) := ⟨fun _ _ _ _ h => h.elim, fun _ _ _ _ _ _ _ _ _ _ _ _ _ h => h.elim⟩
theorem all_step (T : Txt P K mg) {lv : Nat} {ok ok' : List Kd → Kd → Prop} (G_all_fields : FnOk P w K mg base CX0 (lv + 1) T.f_all_fields T.d_all_fields P_all_fields (spAll K ok')) (hok : ∀ rs r b, ok rs r → r.base = some b → ∃ rb, kfind rs b = some rb ∧ ok' rs rb ∧ rb.base = none) : FnOk P w K mg base CX0 (lv + 2) T.f_all_fields T.d_all_fields P_all_fields (spAll K ok) := by
  have G_row := ok_row (P := P) (w := w) (base := base) T
  refine T.F_all_fields.ok sc_all_fields (fun vs H Q E h => ?_) (fun cdv A outer s H vs Q E hr h => ?_)
  · obtain ⟨l, n, rs, r, rfl, _⟩ := h
    rfl
  · obtain ⟨l, n, rs, r, rfl, hl, hz, hf, hk, hfl, kont⟩ := h
    have hr1 : Room 1 (A.deeper (PyProof.Rows.envOfC "_law_all_fields" (defScope s_all_fields) s.heap.objs.size T.f_all_fields cdv)) := hr.mono (by omega)
    refine ⟨_, (pss_cons (ps_set (i := 2) sc_all_fields.nd rfl (Or.inl rfl) (pe_call G_row hr1 (by rfl) T.g_row T.F_row.kp T.B_row .nil pass0 (pa_cons (pv 0) (pa_cons (pv 1) pa_nil))))
      (pss_cons (ps_if (pt_cmpR op_isN (pe_dget (hu_of hr1) (pv 2) pe_str (fun _ _ => rfl)) pe_non (nomark _)) (pss_one (ps_ret (pe_callTy call_list_of (by rfl) T.b_list (by decide +kernel) (pa_cons (pe_dget (hu_of hr1) (pv 2) pe_str (fun _ _ => rfl)) pa_nil)))) pss_nil)
      (pss_one (ps_ret (pe_op op_cat (pe_call G_all_fields hr (by rfl) T.g_all_fields T.F_all_fields.kp T.B_all_fields .nil pass0 (pa_cons (pv 0) (pa_cons (pe_dget (hu_of hr1) (pv 2) pe_str (fun _ _ => rfl)) pa_nil))) (pe_callTy call_list_of (by rfl) T.b_list (by decide +kernel) (pa_cons (pe_dget (hu_of hr1) (pv 2) pe_str (fun _ _ => rfl)) pa_nil))))))), ?_⟩
    refine q_any ⟨_, rfl, _, rfl, l, n, rs, r, rfl, hl, hz, hf, fun v H1 X1 hv => ?_⟩
    have hrm := (kfind_some hf).1
    have lr := hfl r hrm
    obtain ⟨a, o, xs, e1, h1, h2, h3⟩ := id hv
    have lxs : xs.length = r.fields.length := Paired.length h3
    have eown : ∀ Hx, Ex H1 Hx → Ev (tDGet (tVar 2) (tC (.str "own"))) [some (.ref l), some (.str n), some v] Hx (.ref o) := fun Hx X => by
      subst e1
      exact ev_dgetK (ev_var rfl) ev_c (X _ _ h1) rk_own
    cases hb : r.base with
    | none =>
      have hv' := hv
      refine q_when (b := true) (et_is (et_test (ev_op (ev_base (ev_var rfl) hv) ev_c rv_isN)) (by rw [hb]; rfl)) (fun _ H2 X2 => ?_) fun q => nomatch q
      have eg : gath rs r = r.fields := by unfold gath baseFs; rw [hb]; rfl
      rw [eg] at kont
      exact s_retL (el_listN (K := K) (eown H2 X2) (.inl (sq_of (X2 _ _ h2)))) fun p H3 hp X3 h3' => kont p H3 (fresh_back (X1.trans X2) hp) ((X1.trans X2).trans X3) ⟨p, xs, rfl, h3', Paired.mapP h3 fun _ _ q => ftAt_mono _ _ _ _ (X2.trans X3) q⟩
    | some b =>
      obtain ⟨rb, hfb, hokb, hrb⟩ := hok rs r b hk hb
      refine q_when (b := false) (et_is (et_test (ev_op (ev_base (ev_var rfl) hv) ev_c rv_isN)) (by rw [hb]; rfl)) (fun q => nomatch q) fun _ H2 X2 => ?_
      have eg : gath rs r = rb.fields ++ r.fields := by unfold gath baseFs; rw [hb]; simp only [hfb]
      rw [eg] at kont
      have eb : gath rs rb = rb.fields := by unfold gath baseFs; rw [hrb]; rfl
      have hl2 := hl.mono rowAt_mono (X1.trans X2)
      have hv2 := rowAt_mono _ _ _ _ X2 hv
      have ebase : Ev (tDGet (tVar 2) (tC (.str "base"))) [some (.ref l), some (.str n), some v] H2 (.str b) := ev_is (ev_base (ev_var rfl) hv2) (by rw [hb]; rfl)
      refine ⟨_, rfl, ebase H2 (Ex.refl H2) _ fun H3 X3 => ⟨l, b, rs, rb, rfl, hl2.mono rowAt_mono X3, hz, hfb, hokb, hfl, fun p H4 hp X4 hp4 => ?_⟩⟩
      rw [eb] at hp4
      obtain ⟨p', ys, e, h4, h5⟩ := hp4
      cases e
      have lrb := hfl rb (kfind_some hfb).1
      have lys : ys.length = rb.fields.length := Paired.length h5
      have X24 := X3.trans X4
      refine (el_listN (K := K) (eown H4 (X2.trans X24)) (.inl (sq_of ((X2.trans X24) _ _ h2))) : EvL _ _ H4 _) H4 (Ex.refl H4) _ fun q H5 hq X5 h5q => ⟨p, q, ys, xs, rfl, rfl, X5 _ _ h4, h5q, sz_of (by omega), fun t ht => ?_⟩
      have X6 : Ex H5 (upd H5 t (.lst (ys ++ xs))) := Ex.new ht
      have X06 := ((X1.trans X2).trans (X24.trans X5)).trans X6
      refine kont t _ (fresh_back ((X1.trans X2).trans (X24.trans X5)) ht) X06 ⟨t, _, rfl, upd_same, pr_append (Paired.mapP h5 fun _ _ q => ftAt_mono _ _ _ _ (X5.trans X6) q) (Paired.mapP h3 fun _ _ q => ftAt_mono _ _ _ _ ((X2.trans (X24.trans X5)).trans X6) q)⟩
theorem ok_all_fields (T : Txt P K mg) : FnOk P w K mg base CX0 3 T.f_all_fields T.d_all_fields P_all_fields (spAll K bOk) :=
  all_step T (lv := 1) (ok' := fun _ r => r.base = none) (all_step T (lv := 0) (ok' := fun _ _ => False) (FnOk.imp (ok_all_fieldsF T) fun vs H Q E h => by
    obtain ⟨_, _, _, _, _, _, _, _, z, _⟩ := h
    exact z) fun rs r b h1 h2 => by rw [h1] at h2; cases h2) fun rs r b h1 h2 => let ⟨rb, a, c⟩ := h1 b h2; ⟨rb, a, c, c⟩
theorem ok_admitted (T : Txt P K mg) : FnOk P w K mg base CX0 1 T.f_admitted T.d_admitted P_admitted (spAdm K) := by
  refine T.F_admitted.ok sc_admitted (fun vs H Q E h => ?_) (fun cdv A outer s H vs Q E hr h => ?_)
  · obtain ⟨l, t, rs, rfl, _⟩ := h
    rfl
  · obtain ⟨l, t, rs, rfl, hl, hz, kont⟩ := h
    refine ⟨_, (pss_one (ps_ret (pe_lc (own := [("_law_row_here", 2)]) (g := gName 2) (by rfl) sc_admitted.nd (pi_list (pv 0)) (blkOk_by (own := [("_law_row_here", 2)]) (N := N_admitted) (sc := defScope s_admitted) (by decide +kernel)) (fun _ _ _ _ _ => (pg_name (i := 2) sc_admitted.nd rfl (Or.inl rfl))) (fun _ _ _ _ _ => (pts_one (PW.pt (pw_or (pt_cmpR op_eq (pv 1) pe_str (nomark _)) (pw_or1 (pt_cmpR (Way.kk_in (K := K)) (pv 1) (pe_lst (pa_cons (pe_dget (hu_of hr) (pv 2) pe_str (fun _ _ => rfl)) (pa_cons (pe_dget (hu_of hr) (pv 2) pe_str (fun _ _ => rfl)) pa_nil))) (by rfl))))))) (fun _ _ _ _ _ => (pe_dget (hu_of hr) (pv 2) pe_str (fun _ _ => rfl)))))), ?_⟩
    have em : ((rs.filter fun r => decide (t = "any") || (decide (t = r.name) || decide (r.base = some t))).map fun r => V.str r.name) = (admL rs t).map V.str := by unfold admL; rw [List.map_map]; rfl
    refine s_retL (xs := (admL rs t).map V.str) ?_ fun p H1 hp X1 h1 => kont p H1 hp X1 h1
    rw [← em]
    refine el_fmL (K := K) (α := Kd) (g := fun r => decide (t = "any") || (decide (t = r.name) || decide (r.base = some t))) (w := fun r => V.str r.name) rowAt_mono (ev_var rfl) hl (by omega) (by intro _; rfl) (fun x r H1 X1 hr hx => ?_) fun x r H1 X1 hr hx => ?_
    rotate_left
    · exact ev_name (ev_var rfl) hx
    refine et_is (et_or (et_test (ev_op (ev_var rfl) ev_c (rv_eq rfl))) fun _ => et_test (ev_opL (xs := [.str r.name, oV r.base]) (ev_var rfl) (el_lst (ea_cons (ev_name (ev_var rfl) hx) (ea_cons (ev_base (ev_var rfl) hx) ea_nil)) (Nat.le_of_ble_eq_true rfl)) fun q H2 h2 X2 => rv_inL (K := K) (neg := false) (sq_of h2) rfl (by cases r.base <;> rfl))) ?_
    have e1 : decide (V.str t = V.str "any") = decide (t = "any") := decide_eq_decide.mpr ⟨fun z => V.str.inj z, fun z => congrArg V.str z⟩
    rw [e1]
    congr 1
    show inV (.str t) [.str r.name, oV r.base] = _
    cases r.base with
    | none =>
      show inV (.str t) [.str r.name, .non] = _
      unfold inV
      by_cases z : t = r.name
      · subst z; simp [eqV]
      · simp [eqV, z, Ne.symm z]
    | some b =>
      show inV (.str t) [.str r.name, .str b] = _
      rw [show [V.str r.name, V.str b] = [r.name, b].map V.str from rfl, inV_strs]
      by_cases z : t = r.name
      · subst z; simp
      · simp [z, eq_comm]
end
end K03

namespace K03
open PySem L2 Way Evl
/-! what the law's rows lead to -/
structure RsOk (rs : List Kd) : Prop where
  ok : HsOk rs
  b : ∀ r ∈ rs, bOk rs r
theorem RsOk.fl {rs : List Kd} (h : RsOk rs) : ∀ k ∈ rs, k.fields.length ≤ 1000 := fun k hk => by have := (h.ok.g k hk).l; omega
def spLd (K : PySem.W.Frag) (f : List Kd → Str → List Str) : Sp := fun vs H Q _ => ∃ (l : Addr) (n : Str) (rs : List Kd), vs = [.ref l, .str n] ∧ RsAt K rs l H ∧ RsOk rs ∧ n ∈ nms rs ∧ ∀ p H', H p = none → Ex H H' → H' p = some (.lst ((f rs n).map V.str)) → Q (.ref p) H'
theorem lead_map {rs : List Kd} (F : List Str) : ((rs.filter fun r => decide (r.name ∈ F)).map fun r => V.str r.name) = ((nms rs).filter fun m => decide (m ∈ F)).map V.str := by
  unfold nms
  rw [List.filter_map, List.map_map]; rfl
theorem rsOk_len {rs : List Kd} (h : RsOk rs) : rs.length ≤ 12 := h.ok.len
/-- closed under one step -/
def Cl (rs : List Kd) (M : List Str) : Prop := ∀ x ∈ M, ∀ y, stepK rs x y = true → y ∈ M
structure FarI (rs : List Kd) (n : Str) (t : Nat) (M : List Str) : Prop where
  f : M = (nms rs).filter fun m => decide (m ∈ M)
  a : ∀ x ∈ M, Far rs n x
  s : ∀ x, stepK rs n x = true → x ∈ M
  c : Cl rs M ∨ t < M.length
theorem farI_nod {rs : List Kd} (nd : (nms rs).Nodup) {n : Str} {t : Nat} {M : List Str} (h : FarI rs n t M) : M.Nodup := by
  rw [h.f]; exact nd.filter _
theorem farI_sub {rs : List Kd} {n : Str} {t : Nat} {M : List Str} (h : FarI rs n t M) : ∀ x ∈ M, x ∈ nms rs := fun x hx => far_sub (h.a x hx)
theorem farI_zero {rs : List Kd} {n : Str} : FarI rs n 0 (leadsK rs n) := by
  refine ⟨?_, fun x hx => .one (leads_mem.mp hx), fun x hx => leads_mem.mpr hx, ?_⟩
  · have : (fun m => decide (m ∈ leadsK rs n)) = stepK rs n := funext fun m => by
      rw [Bool.eq_iff_iff, decide_eq_true_eq]; exact leads_mem
    rw [this]; rfl
  · cases h : leadsK rs n with
    | nil => exact .inl fun x hx => by cases hx
    | cons _ _ => exact .inr (by simp)
theorem farI_succ {rs : List Kd} (nd : (nms rs).Nodup) {n : Str} {t : Nat} {M W : List Str} (h : FarI rs n t M) (hW : ∀ m, m ∈ W ↔ m ∈ M ∨ ∃ x ∈ M, stepK rs x m = true) : FarI rs n (t + 1) ((nms rs).filter fun m => decide (m ∈ W)) := by
  have mem : ∀ m, m ∈ ((nms rs).filter fun m => decide (m ∈ W)) ↔ m ∈ W := fun m => by
    rw [List.mem_filter, decide_eq_true_eq]
    refine ⟨fun z => z.2, fun z => ⟨?_, z⟩⟩
    rcases (hW m).mp z with q | ⟨x, hx, q⟩
    · exact farI_sub h m q
    · exact step_sub q
  refine ⟨List.filter_congr fun m _ => decide_eq_decide.mpr (mem m).symm, fun x hx => ?_, fun x hx => (mem x).mpr ((hW x).mpr (.inl (h.s x hx))), ?_⟩
  · rcases (hW x).mp ((mem x).mp hx) with q | ⟨y, hy, q⟩
    · exact h.a x q
    · exact .more (h.a y hy) q
  · by_cases hc : Cl rs M
    · refine .inl fun x hx y hy => (mem y).mpr ((hW y).mpr ?_)
      rcases (hW x).mp ((mem x).mp hx) with q | ⟨z, hz, q⟩
      · exact .inr ⟨x, q, hy⟩
      · exact .inr ⟨x, hc z hz x q, hy⟩
    · have : ∃ x ∈ M, ∃ y, stepK rs x y = true ∧ y ∉ M := by
        apply Classical.byContradiction
        intro z
        exact hc fun x hx y hy => Classical.byContradiction fun q => z ⟨x, hx, y, hy, q⟩
      obtain ⟨x, hx, y, hy, ny⟩ := this
      have ht := h.c.resolve_left hc
      have nd' : (M ++ [y]).Nodup := by
        rw [List.nodup_append]
        exact ⟨farI_nod nd h, by simp, fun u hu v hv e => ny (by rw [List.mem_singleton.mp hv] at e; rw [← e]; exact hu)⟩
      have := nod_le nd' (m := (nms rs).filter fun m => decide (m ∈ W)) fun u hu => (mem u).mpr ((hW u).mpr ((List.mem_append.mp hu).elim .inl fun z => .inr ⟨x, hx, by rw [List.mem_singleton.mp z]; exact hy⟩))
      rw [List.length_append, List.length_singleton] at this
      exact .inr (by omega)
theorem farI_end {rs : List Kd} (nd : (nms rs).Nodup) {n : Str} {M : List Str} (h : FarI rs n rs.length M) : M = farK rs n := by
  have hc : Cl rs M := h.c.resolve_right fun z => by
    have := nod_le (farI_nod nd h) (farI_sub h)
    have e : (nms rs).length = rs.length := by unfold nms; rw [List.length_map]
    omega
  rw [h.f]
  refine far_filter fun m => ?_
  rw [decide_eq_true_eq]
  refine ⟨h.a m, fun hf => ?_⟩
  induction hf with
  | one q => exact h.s _ q
  | more _ q ih => exact hc _ ih _ q
theorem pr_ix {K : PySem.W.Frag} {f : Fd} {v : V} {H : Hp} (h : FtAt K f v H) : ∃ t wt, v = .ref t ∧ SqT K H t [.str f.name, .str f.mode, oV f.tgt, .int f.dfl, .ref wt] := let ⟨t, wt, h1, h2, _⟩ := h; ⟨t, wt, h1, h2⟩
section
variable {K : PySem.W.Frag} {σ : L2.St} {H : Hp} {te : TE} {v : V} {f : Fd}
theorem ev_f0 (h : Ev te σ H v) (hf : FtAt K f v H) : Ev (tOp (rIxT K) te (tC (.int 0))) σ H (.str f.name) := by
  obtain ⟨t, wt, rfl, h1, _⟩ := hf
  exact ev_op h ev_c (rv_ixT h1 (at_of (j := 0) rfl rfl))
theorem ev_f1 (h : Ev te σ H v) (hf : FtAt K f v H) : Ev (tOp (rIxT K) te (tC (.int 1))) σ H (.str f.mode) := by
  obtain ⟨t, wt, rfl, h1, _⟩ := hf
  exact ev_op h ev_c (rv_ixT h1 (at_of (j := 1) rfl rfl))
theorem ev_f2 (h : Ev te σ H v) (hf : FtAt K f v H) : Ev (tOp (rIxT K) te (tC (.int 2))) σ H (oV f.tgt) := by
  obtain ⟨t, wt, rfl, h1, _⟩ := hf
  exact ev_op h ev_c (rv_ixT h1 (at_of (j := 2) rfl rfl))
theorem ev_f3 (h : Ev te σ H v) (hf : FtAt K f v H) : Ev (tOp (rIxT K) te (tC (.int 3))) σ H (.int f.dfl) := by
  obtain ⟨t, wt, rfl, h1, _⟩ := hf
  exact ev_op h ev_c (rv_ixT h1 (at_of (j := 3) rfl rfl))
end
theorem el_catVL {K : PySem.W.Frag} {σ : L2.St} {H : Hp} {te tb : TE} {xs ys : List V} {p : Addr} (h : Ev te σ H (.ref p)) (hp : H p = some (.lst xs)) (h2 : EvL tb σ H ys) (hl : xs.length + ys.length ≤ 100000) : EvL (tOp rCat te tb) σ H (xs ++ ys) := fun H1 e Q q =>
  h H1 e _ fun H2 e2 => h2 H2 (e.trans e2) _ fun b H3 hb e3 h3 => ⟨p, b, xs, ys, rfl, rfl, ((e.trans e2).trans e3) _ _ hp, h3, sz_of hl, fun t ht => q t _ (fresh_back (e2.trans e3) ht) ((e2.trans e3).trans (Ex.new ht)) upd_same⟩
theorem q_seqLC {K : PySem.W.Frag} {σ : L2.St} {H : Hp} {tl : TE} {g : TG} {tu tz : TS} {D : Ends} {P : V → Hp → Prop} (h : EvN tl σ H P) (k : ∀ p H1, H p = none → Ex H H1 → P (.ref p) H1 → tSeq (tFor (iList K (tC (.ref p))) g tu) tz D σ H1) : tSeq (tFor (iList K tl) g tu) tz D σ H :=
  h H (Ex.refl H) _ fun p H1 hp X1 q => k p H1 hp X1 q
section
variable {P : Program} {w : World} {K : PySem.W.Frag} {mg : Str → Option Value} {base : Heap}
/-- the fields of the kind named n -/
theorem en_all {σ : L2.St} {H : Hp} {tl tn : TE} {l : Addr} {n : Str} {rs : List Kd} {r : Kd} {E : XK} (h1 : Ev tl σ H (.ref l)) (h2 : Ev tn σ H (.str n)) (hl : RsAt K rs l H) (hz : rs.length ≤ 100) (hf : kfind rs n = some r) (hb : bOk rs r) (hfl : ∀ k ∈ rs, k.fields.length ≤ 1000) : EvN (tCall (spAll K bOk) [] E (tCons tl (tCons tn tNil))) σ H (LAt (FtAt K) (gath rs r)) := fun H1 e Q q =>
  h1 H1 e _ fun H2 e2 => h2 H2 (e.trans e2) _ fun H3 e3 => ⟨l, n, rs, r, rfl, hl.mono rowAt_mono ((e.trans e2).trans e3), hz, hf, hb, hfl, fun p H4 hp e4 h4 => q p H4 (fresh_back (e2.trans e3) hp) ((e2.trans e3).trans e4) h4⟩
theorem el_adm {σ : L2.St} {H : Hp} {tl tn : TE} {l : Addr} {t : Str} {rs : List Kd} {E : XK} (h1 : Ev tl σ H (.ref l)) (h2 : Ev tn σ H (.str t)) (hl : RsAt K rs l H) (hz : rs.length ≤ 100) : EvL (tCall (spAdm K) [] E (tCons tl (tCons tn tNil))) σ H ((admL rs t).map V.str) := fun H1 e Q q =>
  h1 H1 e _ fun H2 e2 => h2 H2 (e.trans e2) _ fun H3 e3 => ⟨l, t, rs, rfl, hl.mono rowAt_mono ((e.trans e2).trans e3), hz, fun p H4 hp e4 h4 => q p H4 (fresh_back (e2.trans e3) hp) ((e2.trans e3).trans e4) h4⟩
theorem el_ld {σ : L2.St} {H : Hp} {tl tn : TE} {l : Addr} {n : Str} {rs : List Kd} {E : XK} {f : List Kd → Str → List Str} (h1 : Ev tl σ H (.ref l)) (h2 : Ev tn σ H (.str n)) (hl : RsAt K rs l H) (hok : RsOk rs) (hn : n ∈ nms rs) : EvL (tCall (spLd K f) [] E (tCons tl (tCons tn tNil))) σ H ((f rs n).map V.str) := fun H1 e Q q =>
  h1 H1 e _ fun H2 e2 => h2 H2 (e.trans e2) _ fun H3 e3 => ⟨l, n, rs, rfl, hl.mono rowAt_mono ((e.trans e2).trans e3), hok, hn, fun p H4 hp e4 h4 => q p H4 (fresh_back (e2.trans e3) hp) ((e2.trans e3).trans e4) h4⟩
theorem ok_leads (T : Txt P K mg) : FnOk P w K mg base CX0 4 T.f_leads T.d_leads P_leads (spLd K leadsK) := by
  have G_all_fields := ok_all_fields (P := P) (w := w) (base := base) T
  have G_admitted := ok_admitted (P := P) (w := w) (base := base) T
  refine T.F_leads.ok sc_leads (fun vs H Q E h => ?_) (fun cdv A outer s H vs Q E hr h => ?_)
  · obtain ⟨l, n, rs, rfl, _⟩ := h
    rfl
  · obtain ⟨l, n, rs, rfl, hl, hok, hn, kont⟩ := h
    refine ⟨_, (pss_cons (ps_set (i := 2) sc_leads.nd rfl (Or.inr rfl) (pe_lst pa_nil))
      (pss_cons (ps_for PassesOwn.never rfl (pi_list (pe_call G_all_fields hr (by rfl) T.g_all_fields T.F_all_fields.kp T.B_all_fields .nil pass0 (pa_cons (pv 0) (pa_cons (pv 1) pa_nil)))) (pg_name (i := 3) sc_leads.nd rfl (Or.inl rfl)) (pss_one (ps_if (pt_cmpR op_ne (pe_ix ix_tup (pv 3) pe_int (fun _ _ => rfl)) pe_str (nomark _)) (pss_one (ps_set (i := 2) sc_leads.nd rfl (Or.inr rfl) (pe_op op_cat (pv 2) (pe_call G_admitted (hr.mono (by decide)) (by rfl) T.g_admitted T.F_admitted.kp T.B_admitted .nil pass0 (pa_cons (pv 0) (pa_cons (pe_ix ix_tup (pv 3) pe_int (fun _ _ => rfl)) pa_nil)))))) pss_nil)))
      (pss_one (ps_ret (pe_lc (own := [("_law_row_here", 4)]) (g := gName 4) (by rfl) sc_leads.nd (pi_list (pv 0)) (blkOk_by (own := [("_law_row_here", 4)]) (N := N_leads) (sc := defScope s_leads) (by decide +kernel)) (fun _ _ _ _ _ => (pg_name (i := 4) sc_leads.nd rfl (Or.inl rfl))) (fun _ _ _ _ _ => (pts_one (pt_cmpR (Way.kk_in (K := K)) (pe_dget (hu_of hr) (pv 4) pe_str (fun _ _ => rfl)) (pv 2) (by rfl)))) (fun _ _ _ _ _ => (pe_dget (hu_of hr) (pv 4) pe_str (fun _ _ => rfl)))))))), ?_⟩
    obtain ⟨r, hr'⟩ := kfind_in hn
    have hrm := (kfind_some hr').1
    have z100 : rs.length ≤ 100 := by have := hok.ok.len; omega
    refine q_asgL (el_lst ea_nil (Nat.zero_le _)) fun fo H1 hfo X1 h1 => ?_
    refine q_seqLC (K := K) (en_all (K := K) (ev_var rfl) (ev_var rfl) (hl.mono rowAt_mono X1) z100 hr' (hok.b r hrm) hok.fl) fun p H2 hp X2 ⟨p', xs, e, h2, hpx⟩ => ?_
    cases e
    have X12 := X1.trans X2
    have gl := gath_len' hok.ok hrm
    have lx : xs.length = (gath rs r).length := Paired.length hpx
    have hgood := fun f hf hm => gath_good hok.ok hrm (f := f) hf hm
    have hst := fun m => step_iff (m := m) hr'
    revert hgood hst gl lx hpx
    generalize hgs : gath rs r = gs
    intro hpx gl lx hgood hst
    refine q_forLn (K := K) ev_c (sq_of h2) (fun i σ' H' => ∃ (fo : Addr) (M : List Str) (vf : Option V), σ' = [some (.ref l), some (.str n), some (.ref fo), vf, none] ∧ Ex H2 H' ∧ H' fo = some (.lst (M.map V.str)) ∧ M.length ≤ 12 * i ∧ ∀ m, m ∈ M ↔ ∃ j f, j < i ∧ gs[j]? = some f ∧ leadF rs f m) (fun H3 X3 => ⟨fo, [], none, rfl, X3, (X2.trans X3) _ _ h1, Nat.le_refl _, fun m => ⟨fun z => (by cases z), fun ⟨j, f, z, _⟩ => absurd z (Nat.not_lt_zero _)⟩⟩) (fun i σ' H' _ ⟨_, _, _, _, z, _⟩ => sq_of (z _ _ h2)) ?_ ?_
    · rintro i x σ' H3 hx ⟨fo', M, vf, rfl, X3, h3, lM, iM⟩
      obtain ⟨f, hf, hfx⟩ := pr_at hpx hx
      have hfm := List.mem_of_getElem? hf
      have hil : i < gs.length := (List.getElem?_eq_some_iff.mp hf).1
      have hfx3 := ftAt_mono _ _ _ _ X3 hfx
      refine s_when (b := !decide (f.mode = "mark")) (et_is (et_test (ev_op (ev_f1 (ev_var rfl) hfx3) ev_c (rv_ne rfl))) (by simp)) (fun q H4 X4 => ?_) (fun q H4 X4 => ?_)
      · have qm : f.mode ≠ "mark" := by simpa using q
        obtain ⟨t, ht, hto⟩ := hgood f hfm qm
        have et : Ev (tOp (rIxT K) (tVar 3) (tC (.int 2))) [some (.ref l), some (.str n), some (.ref fo'), some x, none] H4 (.str t) := ev_is (ev_f2 (ev_var rfl) (ftAt_mono _ _ _ _ X4 hfx3)) (by rw [ht]; rfl)
        have la := adm_len (ks := rs) (t := t) hok.ok.len
        rw [← adm_eq hok.ok.nd] at la
        refine s_asgL (el_catVL (K := K) (ev_var rfl) (X4 _ _ h3) (el_adm (K := K) (ev_var rfl) et (hl.mono rowAt_mono ((X12.trans X3).trans X4)) z100) (by rw [List.length_map, List.length_map]; omega)) fun q5 H5 hq5 X5 h5 => ?_
        refine ⟨q5, M ++ admL rs t, _, rfl, (X3.trans X4).trans X5, by rw [h5, List.map_append], by rw [List.length_append]; omega, fun m => ?_⟩
        have lead_t : leadF rs f m ↔ m ∈ admL rs t := by
          rw [adm_eq hok.ok.nd]
          exact ⟨fun ⟨_, t', e, z⟩ => by rw [ht] at e; cases e; exact z, fun z => ⟨qm, t, ht, z⟩⟩
        rw [List.mem_append, iM m, ← lead_t]
        constructor
        · rintro (⟨j, f', hj, a1, a2⟩ | z)
          · exact ⟨j, f', by omega, a1, a2⟩
          · exact ⟨i, f, by omega, hf, z⟩
        · rintro ⟨j, f', hj, a1, a2⟩
          by_cases e : j = i
          · subst e
            rw [hf] at a1
            cases a1
            exact .inr a2
          · exact .inl ⟨j, f', by omega, a1, a2⟩
      · have qm : f.mode = "mark" := by simpa using q
        refine ⟨fo', M, _, rfl, X3.trans X4, X4 _ _ h3, by omega, fun m => ?_⟩
        rw [iM m]
        constructor
        · rintro ⟨j, f', hj, a1, a2⟩
          exact ⟨j, f', by omega, a1, a2⟩
        · rintro ⟨j, f', hj, a1, a2⟩
          by_cases e : j = i
          · subst e
            rw [hf] at a1
            cases a1
            exact absurd qm a2.1
          · exact ⟨j, f', by omega, a1, a2⟩
    · rintro σ' H3 ⟨fo', M, vf, rfl, X3, h3, lM, iM⟩
      rw [lx] at iM
      have eM : ∀ m, decide (m ∈ M) = stepK rs n m := fun m => by
        rw [Bool.eq_iff_iff, decide_eq_true_eq, iM m, hst m]
        constructor
        · rintro ⟨j, f, _, a1, a2⟩
          exact ⟨f, List.mem_of_getElem? a1, a2⟩
        · rintro ⟨f, a1, a2⟩
          obtain ⟨j, hj⟩ := List.getElem?_of_mem a1
          exact ⟨j, f, (List.getElem?_eq_some_iff.mp hj).1, hj, a2⟩
      have em : ((rs.filter fun r => decide (r.name ∈ M)).map fun r => V.str r.name) = (leadsK rs n).map V.str := by
        rw [lead_map, show (fun m => decide (m ∈ M)) = stepK rs n from funext eM]; rfl
      have X13 := X12.trans X3
      refine s_retL (xs := (leadsK rs n).map V.str) ?_ fun q H4 hq X4 h4 => kont q H4 (fresh_back X13 hq) (X13.trans X4) h4
      rw [← em]
      exact el_fmL (K := K) (α := Kd) (g := fun r => decide (r.name ∈ M)) (w := fun r => V.str r.name) rowAt_mono (ev_var rfl) (hl.mono rowAt_mono X13) (by omega) (fun _ => rfl) (fun x r H4 X4 hr hx => et_is (et_test (ev_op (ev_name (ev_var rfl) hx) (ev_var rfl) (rv_inL (K := K) (neg := false) (sq_of (X4 _ _ h3)) rfl (Way.flat_strs M)))) (by show inV (.str r.name) (M.map V.str) = _; rw [inV_strs])) fun x r H4 X4 hr hx => ev_name (ev_var rfl) hx
theorem at_str {l : List Str} {i : Nat} {y : V} (e : (l.map V.str)[i]? = some y) : ∃ b, l[i]? = some b ∧ y = V.str b := by
  rw [List.getElem?_map] at e
  cases q : l[i]? with
  | none => rw [q] at e; cases e
  | some b => rw [q] at e; exact ⟨b, rfl, (Option.some.inj e).symm⟩
theorem ok_leads_far (T : Txt P K mg) : FnOk P w K mg base CX0 5 T.f_leads_far T.d_leads_far P_leads_far (spLd K farK) := by
  have G_leads := ok_leads (P := P) (w := w) (base := base) T
  refine T.F_leads_far.ok sc_leads_far (fun vs H Q E h => ?_) (fun cdv A outer s H vs Q E hr h => ?_)
  · obtain ⟨l, n, rs, rfl, _⟩ := h
    rfl
  · obtain ⟨l, n, rs, rfl, hl, hok, hn, kont⟩ := h
    refine ⟨_, (pss_cons (ps_set (i := 2) sc_leads_far.nd rfl (Or.inl rfl) (pe_call G_leads hr (by rfl) T.g_leads T.F_leads.kp T.B_leads .nil pass0 (pa_cons (pv 0) (pa_cons (pv 1) pa_nil))))
      (pss_cons (ps_for PassesOwn.never rfl (pi_range1 (by rfl) T.b_range (pa_cons (pe_callB call_len_seq (by rfl) T.b_len (by decide +kernel) (pa_cons (pv 0) pa_nil)) pa_nil)) (pg_name (i := 3) sc_leads_far.nd rfl (Or.inl rfl)) (pss_cons (ps_set (i := 4) sc_leads_far.nd rfl (Or.inr rfl) (pe_callTy call_list_of (by rfl) T.b_list (by decide +kernel) (pa_cons (pv 2) pa_nil)))
      (pss_cons (ps_for PassesOwn.never rfl (pi_list (pv 2)) (pg_name (i := 5) sc_leads_far.nd rfl (Or.inl rfl)) (pss_one (ps_set (i := 4) sc_leads_far.nd rfl (Or.inr rfl) (pe_op op_cat (pv 4) (pe_call G_leads hr (by rfl) T.g_leads T.F_leads.kp T.B_leads .nil pass0 (pa_cons (pv 0) (pa_cons (pv 5) pa_nil)))))))
      (pss_one (ps_setLc (i := 2) (own := [("_law_row_here", 6)]) (g := gName 6) (by rfl) sc_leads_far.nd rfl rfl (sw_true rfl rfl rfl (by decide +kernel)) (pi_list (pv 0)) (blkOk_by (own := [("_law_row_here", 6)]) (N := N_leads_far) (sc := defScope s_leads_far) (by decide +kernel)) (fun _ _ _ _ _ => (pg_name (i := 6) sc_leads_far.nd rfl (Or.inl rfl))) (fun _ _ _ _ _ => (pts_one (pt_cmpR (Way.kk_in (K := K)) (pe_dget (hu_of hr) (pv 6) pe_str (fun _ _ => rfl)) (pv 4) (by rfl)))) (fun _ _ _ _ _ => (pe_dget (hu_of hr) (pv 6) pe_str (fun _ _ => rfl))))))))
      (pss_one (ps_ret (pv 2))))), ?_⟩
    have z12 := hok.ok.len
    have nd := hok.ok.nd
    have lnm : (nms rs).length = rs.length := by unfold nms; rw [List.length_map]
    refine q_asgL (el_ld (K := K) (ev_var rfl) (ev_var rfl) hl hok hn) fun fo H1 hfo X1 h1 => ?_
    obtain ⟨pl, xsl, el, hl1, hpl⟩ := id hl
    cases el
    have lxs : xsl.length = rs.length := Paired.length hpl
    refine q_forR1 (n := (rs.length : Int)) (ea_cons (ev_is (ev_cb (ea_cons (ev_var rfl) ea_nil) (rc_lenL (K := K) (sq_of (X1 _ _ hl1)))) (by rw [lxs])) ea_nil) (by omega) (fun i σ' H' => ∃ (fo : Addr) (M : List Str) (v3 v4 v5 : Option V), σ' = [some (.ref l), some (.str n), some (.ref fo), v3, v4, v5, none] ∧ Ex H H' ∧ H fo = none ∧ H' fo = some (.lst (M.map V.str)) ∧ FarI rs n i M)
      (fun H2 X2 => ⟨fo, _, none, none, none, rfl, X1.trans X2, hfo, X2 _ _ h1, farI_zero⟩) ?_ ?_
    · rintro i σ' H2 hi ⟨fo', M, v3, v4, v5, rfl, X2, nf, h2, fi⟩
      have lM := nod_le (farI_nod nd fi) (farI_sub fi)
      refine q_asgL (el_listN (K := K) (ev_var rfl) (.inl (sq_of h2))) fun mo H3 hmo X3 h3 => ?_
      refine q_forLn (K := K) (ev_var rfl) (sq_of (X3 _ _ h2)) (fun j σ' H' => ∃ (mo : Addr) (W : List Str) (v5 : Option V), σ' = [some (.ref l), some (.str n), some (.ref fo'), some (.int (i : Int)), some (.ref mo), v5, none] ∧ Ex H3 H' ∧ H' mo = some (.lst (W.map V.str)) ∧ W.length ≤ M.length + 12 * j ∧ ∀ m, m ∈ W ↔ m ∈ M ∨ ∃ x ∈ M.take j, stepK rs x m = true) (fun H4 X4 => ⟨mo, M, v5, rfl, X4, X4 _ _ h3, Nat.le_refl _, fun m => ⟨.inl, fun z => z.resolve_right fun ⟨x, hx, _⟩ => by rw [List.take_zero] at hx; cases hx⟩⟩) (fun i σ' H' _ ⟨_, _, _, _, z, _⟩ => sq_of ((X3.trans z) _ _ h2)) ?_ ?_
      · rintro j x σ' H4 hx ⟨mo', W, v5', rfl, X4, h4, lW, iW⟩
        obtain ⟨y, hy, rfl⟩ := at_str hx
        have hj : j < M.length := (List.getElem?_eq_some_iff.mp hy).1
        have hym := farI_sub fi y (List.mem_of_getElem? hy)
        have ly : (leadsK rs y).length ≤ (nms rs).length := List.length_filter_le _ _
        have hl4 := hl.mono rowAt_mono (X2.trans (X3.trans X4))
        refine s_asgL (el_catVL (K := K) (ev_var rfl) h4 (el_ld (K := K) (ev_var rfl) (ev_var rfl) hl4 hok hym) (by rw [List.length_map, List.length_map]; omega)) fun q5 H5 hq5 X5 h5 => ?_
        refine ⟨q5, W ++ leadsK rs y, _, rfl, X4.trans X5, by rw [h5, List.map_append], by rw [List.length_append]; omega, fun m => ?_⟩
        rw [List.mem_append, iW m, leads_mem, List.take_add_one, hy]
        constructor
        · rintro ((z | ⟨x, hx, z⟩) | z)
          · exact .inl z
          · exact .inr ⟨x, List.mem_append_left _ hx, z⟩
          · exact .inr ⟨y, List.mem_append_right _ (by simp), z⟩
        · rintro (z | ⟨x, hx, z⟩)
          · exact .inl (.inl z)
          · rcases List.mem_append.mp hx with q | q
            · exact .inl (.inr ⟨x, q, z⟩)
            · have : x = y := by simpa using q
              rw [this] at z
              exact .inr z
      · rintro σ' H4 ⟨mo', W, v5', rfl, X4, h4, lW, iW⟩
        rw [List.length_map, List.take_length] at iW
        have X24 := X2.trans (X3.trans X4)
        refine s_asgL (xs := ((nms rs).filter fun m => decide (m ∈ W)).map V.str) ?_ fun q5 H5 hq5 X5 h5 => ⟨q5, _, _, _, _, rfl, X24.trans X5, fresh_back X24 hq5, h5, farI_succ nd fi iW⟩
        rw [← lead_map]
        exact el_fmL (K := K) (α := Kd) (g := fun r => decide (r.name ∈ W)) (w := fun r => V.str r.name) rowAt_mono (ev_var rfl) (hl.mono rowAt_mono X24) (by omega) (fun _ => rfl) (fun x r H5 X5 hr hx => et_is (et_test (ev_op (ev_name (ev_var rfl) hx) (ev_var rfl) (rv_inL (K := K) (neg := false) (sq_of (X5 _ _ h4)) rfl (Way.flat_strs W)))) (by show inV (.str r.name) (W.map V.str) = _; rw [inV_strs])) fun x r H5 X5 hr hx => ev_name (ev_var rfl) hx
    · rintro σ' H2 ⟨fo', M, v3, v4, v5, rfl, X2, nf, h2, fi⟩
      have e : ((rs.length : Int)).toNat = rs.length := by omega
      rw [e] at fi
      have em := farI_end nd fi
      subst em
      exact s_ret (ev_var rfl) fun H3 X3 => kont fo' H3 nf (X2.trans X3) (X3 _ _ h2)
end
end K03

namespace K03
open PySem L2 Way Evl
theorem oneL {K : PySem.W.Frag} {tl : TE} {σ : L2.St} {H : Hp} {p c : Addr} {k j : Nat} {E : XK} {xs : List V} {Q : VK} (hσ : σ[j]? = some (some (.ref p))) (hl : EvL tl σ H xs) (hP : Pen H p c k) (hk : k ≤ 90000) (h0 : 0 < xs.length) (h1 : xs.length ≤ 100)
    (kont : ∀ H' v, v ∈ xs → Kp p H H' → Pen H' p c (k + 1) → Q v H') : tCall (spOneOf K) [] E (tCons (tVar j) (tCons tl tNil)) σ H Q :=
  ⟨_, hσ, hl H (Ex.refl H) _ fun l H1 hn X1 hl1 => ⟨p, c, l, k, xs, rfl, hP.mono X1, hk, hl1, hP.ne hn, h0, h1, fun H2 v hv K2 P2 => kont H2 v hv (Kp.trans (Kp.of X1) K2) P2⟩⟩
theorem oneV {K : PySem.W.Frag} {tl : TE} {σ : L2.St} {H : Hp} {p c l : Addr} {k j : Nat} {E : XK} {xs : List V} {Q : VK} (hσ : σ[j]? = some (some (.ref p))) (hl : Ev tl σ H (.ref l)) (h : H l = some (.lst xs)) (hP : Pen H p c k) (hk : k ≤ 90000) (h0 : 0 < xs.length) (h1 : xs.length ≤ 100)
    (kont : ∀ H' v, v ∈ xs → Kp p H H' → Pen H' p c (k + 1) → Q v H') : tCall (spOneOf K) [] E (tCons (tVar j) (tCons tl tNil)) σ H Q :=
  ⟨_, hσ, hl H (Ex.refl H) _ fun H1 X1 => ⟨p, c, l, k, xs, rfl, hP.mono X1, hk, X1 _ _ h, (fun z => by obtain ⟨kv, hk'⟩ := hP.here; rw [z, hk'] at h; cases h), h0, h1, fun H2 v hv K2 P2 => kont H2 v hv (Kp.trans (Kp.of X1) K2) P2⟩⟩
theorem len_map {l : List Str} {H : Hp} {σ : L2.St} {K : PySem.W.Frag} {te : TE} {a : Addr} (h : Ev te σ H (.ref a)) (hl : H a = some (.lst (l.map V.str))) : Ev (tCB (fun xs H Q => ∃ p ys, xs = [V.ref p] ∧ (SqL K H p ys ∨ SqT K H p ys) ∧ Q (.int ys.length) H) (tCons te tNil)) σ H (.int (l.length : Int)) :=
  ev_is (ev_cb (ea_cons h ea_nil) (rc_lenL (K := K) (sq_of hl))) (by rw [List.length_map])
def rot (ws : List Str) (i : Nat) : List Str := ws.drop i ++ ws.take i
theorem rot_mem {ws : List Str} {i : Nat} {x : Str} : x ∈ rot ws i ↔ x ∈ ws := by
  unfold rot
  rw [List.mem_append]
  constructor
  · rintro (h | h)
    · exact List.mem_of_mem_drop h
    · exact List.mem_of_mem_take h
  · intro h
    rw [← List.take_append_drop i ws, List.mem_append] at h
    exact h.symm
theorem rot_len {ws : List Str} {i : Nat} : (rot ws i).length = ws.length := by
  unfold rot
  rw [List.length_append, List.length_drop, List.length_take]
  omega
theorem rot_nod {ws : List Str} {i : Nat} (h : ws.Nodup) : (rot ws i).Nodup := by
  rw [← List.take_append_drop i ws] at h
  unfold rot
  rw [List.nodup_append] at h ⊢
  exact ⟨h.2.1, h.1, fun x hx y hy e => h.2.2 y hy x hx e.symm⟩
theorem cut_lo {ws : List Str} {i : Int} (h0 : 0 ≤ i) (h : i < (ws.length : Int)) : cutV (ws.map V.str) (some i) none = (ws.drop i.toNat).map V.str := by
  have e : i = ((i.toNat : Nat) : Int) := by omega
  have e1 : HT.sIx (ws.map V.str).length 0 (some i) = i.toNat := by
    rw [e, HT.sIx_nat, List.length_map]; omega
  unfold cutV
  rw [e1]
  show List.take (HT.sIx _ _ none - i.toNat) _ = _
  rw [show HT.sIx (ws.map V.str).length (ws.map V.str).length none = (ws.map V.str).length from rfl, ← List.map_drop, List.take_of_length_le (by simp)]
theorem cut_hi {ws : List Str} {i : Int} (h0 : 0 ≤ i) (h : i < (ws.length : Int)) : cutV (ws.map V.str) none (some i) = (ws.take i.toNat).map V.str := by
  have e : i = ((i.toNat : Nat) : Int) := by omega
  have e1 : HT.sIx (ws.map V.str).length (ws.map V.str).length (some i) = i.toNat := by
    rw [e, HT.sIx_nat, List.length_map]; omega
  unfold cutV
  rw [e1]
  show List.take (i.toNat - HT.sIx _ _ none) _ = _
  rw [show HT.sIx (ws.map V.str).length 0 none = 0 from rfl, List.drop_zero, ← List.map_take, Nat.sub_zero]
theorem el_rot {K : PySem.W.Frag} {σ : L2.St} {H : Hp} {a s : Nat} {l : Addr} {ws : List Str} {d : Int} (h1 : σ[a]? = some (some (.ref l))) (h2 : σ[s]? = some (some (.int d))) (hl : H l = some (.lst (ws.map V.str))) (d0 : 0 ≤ d) (d1 : d < (ws.length : Int)) (hz : ws.length ≤ 1000) :
    EvL (tOp rCat (tSl (rSlL K) (tVar a) (tPart (tVar s)) tNoPart) (tSl (rSlL K) (tVar a) tNoPart (tPart (tVar s)))) σ H ((rot ws d.toNat).map V.str) := by
  have e : (rot ws d.toNat).map V.str = cutV (ws.map V.str) (some d) none ++ cutV (ws.map V.str) none (some d) := by
    rw [cut_lo d0 d1, cut_hi d0 d1, ← List.map_append]; rfl
  rw [e]
  refine el_catL (el_sl (K := K) (ev_var h1) (eo_some (ev_var h2)) eo_none (sq_of hl)) (el_sl (K := K) (ev_var h1) eo_none (eo_some (ev_var h2)) (sq_of hl)) ?_
  rw [cut_lo d0 d1, cut_hi d0 d1, List.length_map, List.length_map, List.length_drop, List.length_take]
  omega
theorem flt_len {ws : List Str} {n : Str} (nd : ws.Nodup) : ws.length ≤ (ws.filter fun x => !decide (x = n)).length + 1 := by
  have := nod_le nd (m := n :: ws.filter fun x => !decide (x = n)) fun x hx => by
    by_cases e : x = n
    · rw [e]; exact List.mem_cons_self ..
    · exact List.mem_cons_of_mem _ (List.mem_filter.mpr ⟨hx, by simpa using e⟩)
  simpa using this
theorem elds_of {n : Str} {ws : List Str} (hl : ws.length ≤ 2) (h : ∀ x ∈ ws, fnS x = true ∧ x ≠ n) (nd : ws.Nodup) : elds n (ws.map .str) = true := by
  rcases len2 hl with rfl | ⟨x, rfl⟩ | ⟨x, y, rfl⟩
  · rfl
  · have := h x (by simp)
    simp [elds, this]
  · have h1 := h x (by simp)
    have h2 := h y (by simp)
    have : x ≠ y := by simpa using nd
    simp [elds, h1, h2, this]
/-- the lists that rows are drawn from -/
structure Src (H : Hp) (p ln lp : Addr) (names pool : List Str) : Prop where
  hn : H ln = some (.lst (names.map V.str))
  np : ln ≠ p
  n1 : 1 ≤ names.length ∧ names.length ≤ 20
  kn : ∀ x ∈ names, knS x = true
  hp : H lp = some (.lst (pool.map V.str))
  pp : lp ≠ p
  p1 : pool.length = 14
  nd : pool.Nodup
  fn : ∀ x ∈ pool, fnS x = true
theorem Src.kp {H H' : Hp} {p ln lp : Addr} {names pool : List Str} (h : Src H p ln lp names pool) (k : Kp p H H') : Src H' p ln lp names pool := ⟨k _ _ h.np h.hn, h.np, h.n1, h.kn, k _ _ h.pp h.hp, h.pp, h.p1, h.nd, h.fn⟩
theorem Src.mono {H H' : Hp} {p ln lp : Addr} {names pool : List Str} (h : Src H p ln lp names pool) (k : Ex H H') : Src H' p ln lp names pool := h.kp (Kp.of k)
def FGood (f : Fd) : Prop := fFR (.str f.name) (.str f.mode) (oD f.tgt) (.int f.dfl) (.tuple (f.was.map .str)) = true
theorem sqT_pen {K : PySem.W.Frag} {H H' : Hp} {p c t : Addr} {k : Nat} {xs : List V} (h : Pen H p c k) (kp : Kp p H H') (q : SqT K H t xs) : SqT K H' t xs := by
  obtain ⟨_, _, _, _, _, _, h1, _⟩ := h
  exact (Kps.kp (K := K) (off_pen h1) kp).t _ _ q
theorem ftAt_pen {K : PySem.W.Frag} {H H' : Hp} {p c : Addr} {k : Nat} {f : Fd} {v : V} (h : Pen H p c k) (kp : Kp p H H') (q : FtAt K f v H) : FtAt K f v H' := let ⟨t, wt, e, h1, h2⟩ := q; ⟨t, wt, e, sqT_pen h kp h1, sqT_pen h kp h2⟩
def spWas (K : PySem.W.Frag) : Sp := fun vs H Q _ => ∃ (p c lp : Addr) (k : Nat) (n : Str) (pool : List Str), vs = [.ref p, .str n, .ref lp] ∧ Pen H p c k ∧ k ≤ 80000 ∧ H lp = some (.lst (pool.map V.str)) ∧ lp ≠ p ∧ pool.length = 14 ∧ pool.Nodup ∧ (∀ x ∈ pool, fnS x = true) ∧
  ∀ H' t (ws : List Str), Kp p H H' → Pen H' p c (k + 2) → SqT K H' t (ws.map V.str) → elds n (ws.map .str) = true → Q (.ref t) H'
def spField (K : PySem.W.Frag) : Sp := fun vs H Q _ => ∃ (p c ln lp : Addr) (k : Nat) (n : Str) (names pool : List Str) (leaf : Bool), vs = [.ref p, .str n, .ref ln, .ref lp, .bl leaf] ∧ Pen H p c k ∧ k ≤ 70000 ∧ Src H p ln lp names pool ∧ fnS n = true ∧
  ∀ H' v (f : Fd), Kp p H H' → Pen H' p c (k + 6) → FtAt K f v H' → FGood f → f.name = n → (leaf = true → f.mode = "mark") → (∀ t, f.tgt = some t → t = "any" ∨ t ∈ names) → Q v H'
theorem mark_good {n : Str} {ws : List Str} {d : Int} (hn : fnS n = true) (hd : -1000000000000 < d ∧ d < 1000000000000) (hw : elds n (ws.map .str) = true) : FGood ⟨n, "mark", none, d, ws⟩ := by
  have h1 : (decide (-BIG < d) && decide (d < BIG)) = true := by simp only [BIG, Bool.and_eq_true]; exact ⟨decide_eq_true hd.1, decide_eq_true hd.2⟩
  simp [FGood, fFR, fFM, oD, Way.isNon, h1, hn, fEL, seqOf, hw]
theorem link_good {n m t : Str} {ws : List Str} (hn : fnS n = true) (hm : m = "link" ∨ m = "list") (ht : t = "any" ∨ knS t = true) (hw : elds n (ws.map .str) = true) : FGood ⟨n, m, some t, 0, ws⟩ := by
  have h0 : m ≠ "mark" := by rcases hm with rfl | rfl <;> decide +kernel
  have h1 : fTG (.str t) = true := by
    unfold fTG fKN fAny
    rcases ht with rfl | h
    · simp
    · simp [h]
  simp [FGood, fFR, fFM, oD, h0, hm, h1, hn, fEL, seqOf, hw]
section
variable {P : Program} {w : World} {K : PySem.W.Frag} {mg : Str → Option Value} {base : Heap}
theorem ok_was (T : Txt P K mg) : FnOk P w K mg base CX0 3 T.f_was T.d_was P_was (spWas K) := by
  have G_take := ok_take (P := P) (w := w) (base := base) T
  have G_one_of := ok_one_of (P := P) (w := w) (base := base) T
  refine T.F_was.ok sc_was (fun vs H Q E h => ?_) (fun cdv A outer s H vs Q E hr h => ?_)
  · obtain ⟨p, c, lp, k, n, pool, rfl, _⟩ := h
    rfl
  · obtain ⟨p, c, lp, k, n, pool, rfl, hP, hk, hl, hlp, h14, nd, hf, kont⟩ := h
    refine ⟨_, (pss_cons (ps_setLc (i := 3) (own := [("_law_word_here", 5)]) (g := gName 5) (by rfl) sc_was.nd rfl rfl (sw_true rfl rfl rfl (by decide +kernel)) (pi_list (pv 2)) (blkOk_by (own := [("_law_word_here", 5)]) (N := N_was) (sc := defScope s_was) (by decide +kernel)) (fun _ _ _ _ _ => (pg_name (i := 5) sc_was.nd rfl (Or.inl rfl))) (fun _ _ _ _ _ => (pts_one (pt_cmpR op_ne (pv 5) (pv 1) (nomark _)))) (fun _ _ _ _ _ => (pv 5)))
      (pss_cons (ps_set (i := 4) sc_was.nd rfl (Or.inl rfl) (pe_call G_take (hr.mono (by decide)) (by rfl) T.g_take T.F_take.kp T.B_take .nil pass0 (pa_cons (pv 0) (pa_cons (pe_callB call_len_seq (by rfl) T.b_len (by decide +kernel) (pa_cons (pv 3) pa_nil)) pa_nil))))
      (pss_one (ps_ret (pe_callTy call_tuple_of (by rfl) T.b_tuple (by decide +kernel) (pa_cons (pe_slice sl_list (pe_op op_cat (pe_slice sl_list (pv 3) (po_some (pv 4)) po_none) (pe_slice sl_list (pv 3) po_none (po_some (pv 4)))) po_none (po_some (pe_call G_one_of hr (by rfl) T.g_one_of T.F_one_of.kp T.B_one_of .nil pass0 (pa_cons (pv 0) (pa_cons (pe_lst (pa_cons pe_int (pa_cons pe_int (pa_cons pe_int (pa_cons pe_int pa_nil))))) pa_nil))))) pa_nil)))))), ?_⟩
    refine q_asgL (el_fltSL (K := K) (g := fun x => !decide (x = n)) (ev_var rfl) (sq_of hl) (by omega) (by show 5 < 6; decide) (fun _ => rfl) fun x H1 X1 hx => et_is (et_test (ev_op (ev_var rfl) (ev_var rfl) (rv_ne rfl))) (by simp)) fun el H1 hel X1 h1 => ?_
    have hfl := flt_len (n := n) nd
    have hes : ∀ x ∈ pool.filter fun x => !decide (x = n), fnS x = true ∧ x ≠ n := fun x hx => by
      rw [List.mem_filter] at hx
      exact ⟨hf x hx.1, by simpa using hx.2⟩
    have end' := nd.filter (fun x => !decide (x = n))
    have hel13 : (pool.filter fun x => !decide (x = n)).length ≤ 14 := by rw [← h14]; exact List.length_filter_le _ _
    revert h1 hfl hes end' hel13
    generalize (pool.filter fun x => !decide (x = n)) = es
    intro h1 hfl hes end' hel13
    refine q_any (takeN (n := (es.length : Int)) rfl (len_map (K := K) (ev_var rfl) h1) (hP.mono X1) (by omega) (by omega) (by omega) fun H2 d K2 P2 d0 d1 => ?_)
    have nel : el ≠ p := hP.ne hel
    have h2 := K2 _ _ nel h1
    refine (el_rot (K := K) (a := 3) (s := 4) rfl rfl h2 d0 d1 (by omega) : EvL _ _ H2 _) H2 (Ex.refl H2) _ fun q H3 hq X3 h3 => ?_
    have P3 := P2.mono X3
    refine oneL (K := K) (xs := [.int 0, .int 0, .int 1, .int 2]) rfl (el_lst (ea_cons ev_c (ea_cons ev_c (ea_cons ev_c (ea_cons ev_c ea_nil)))) (Nat.le_of_ble_eq_true rfl)) P3 (by omega) (by decide) (by decide) fun H4 v hv K4 P4 => ?_
    obtain ⟨j, rfl, j0, j2⟩ : ∃ j : Int, v = .int j ∧ 0 ≤ j ∧ j ≤ 2 := by
      simp only [List.mem_cons, List.not_mem_nil, or_false] at hv
      rcases hv with rfl | rfl | rfl | rfl
      · exact ⟨0, rfl, by decide, by decide⟩
      · exact ⟨0, rfl, by decide, by decide⟩
      · exact ⟨1, rfl, by decide, by decide⟩
      · exact ⟨2, rfl, by decide, by decide⟩
    have nqp : q ≠ p := P2.ne hq
    have h4 := K4 _ _ nqp h3
    have rl := rot_len (ws := es) (i := d.toNat)
    refine ⟨j, rfl, q, _, rfl, SqL.of h4, fun r hr' => ⟨r, _, rfl, .inl ⟨SqL.of upd_same, fun t ht => ?_⟩⟩⟩
    rw [cut_hi j0 (by omega)] at ht ⊢
    have X5 : Ex H4 (upd (upd H4 r (.lst (((rot es d.toNat).take j.toNat).map V.str))) t (.tup (((rot es d.toNat).take j.toNat).map V.str))) := (Ex.new hr').trans (Ex.new ht)
    refine kont _ t ((rot es d.toNat).take j.toNat) (Kp.trans (Kp.of X1) (Kp.trans K2 (Kp.trans (Kp.of X3) (Kp.trans K4 (Kp.of X5))))) (P4.mono X5) (SqT.of upd_same) (elds_of (by rw [List.length_take]; omega) (fun x hx => hes x (rot_mem.mp (List.mem_of_mem_take hx))) ((rot_nod end').sublist (List.take_sublist _ _)))
theorem ok_field (T : Txt P K mg) : FnOk P w K mg base CX0 4 T.f_field T.d_field P_field (spField K) := by
  have G_was := ok_was (P := P) (w := w) (base := base) T
  have G_one_of := ok_one_of (P := P) (w := w) (base := base) T
  have G_take := ok_take (P := P) (w := w) (base := base) T
  refine T.F_field.ok sc_field (fun vs H Q E h => ?_) (fun cdv A outer s H vs Q E hr h => ?_)
  · obtain ⟨p, c, ln, lp, k, n, names, pool, leaf, rfl, _⟩ := h
    rfl
  · obtain ⟨p, c, ln, lp, k, n, names, pool, leaf, rfl, hP, hk, hS, hn, kont⟩ := h
    refine ⟨_, (pss_cons (ps_set (i := 5) sc_field.nd rfl (Or.inl rfl) (pe_call G_was hr (by rfl) T.g_was T.F_was.kp T.B_was .nil pass0 (pa_cons (pv 0) (pa_cons (pv 1) (pa_cons (pv 3) pa_nil)))))
      (pss_cons (ps_set (i := 6) sc_field.nd rfl (Or.inl rfl) pe_str)
      (pss_cut (ps_if (pt_not (pt_val (pv 4))) (pss_one (ps_set (i := 6) sc_field.nd rfl (Or.inl rfl) (pe_call G_one_of (hr.mono (by decide)) (by rfl) T.g_one_of T.F_one_of.kp T.B_one_of .nil pass0 (pa_cons (pv 0) (pa_cons (pe_lst (pa_cons pe_str (pa_cons pe_str (pa_cons pe_str (pa_cons pe_str pa_nil))))) pa_nil))))) pss_nil)
      (pss_cons (ps_if (pt_cmpR op_eq (pv 6) pe_str (nomark _)) (pss_cons (ps_set (i := 7) sc_field.nd rfl (Or.inl rfl) (pe_call G_one_of (hr.mono (by decide)) (by rfl) T.g_one_of T.F_one_of.kp T.B_one_of .nil pass0 (pa_cons (pv 0) (pa_cons (pe_lst (pa_cons pe_int (pa_cons pe_int (pa_cons (pe_op op_sub (pe_op op_pow pe_int pe_int) pe_int) (pa_cons (pe_op op_sub pe_int (pe_op op_pow pe_int pe_int)) pa_nil))))) pa_nil))))
      (pss_one (ps_ret (pe_tup (pa_cons (pv 1) (pa_cons pe_str (pa_cons pe_non (pa_cons (pe_op op_add (pv 7) (pe_call G_take (hr.mono (by decide)) (by rfl) T.g_take T.F_take.kp T.B_take .nil pass0 (pa_cons (pv 0) (pa_cons pe_int pa_nil)))) (pa_cons (pv 5) pa_nil))))))))) pss_nil)
      (pss_one (ps_ret (pe_tup (pa_cons (pv 1) (pa_cons (pv 6) (pa_cons (pe_call G_one_of (hr.mono (by decide)) (by rfl) T.g_one_of T.F_one_of.kp T.B_one_of .nil pass0 (pa_cons (pv 0) (pa_cons (pe_op op_cat (pv 2) (pe_lst (pa_cons pe_str pa_nil))) pa_nil))) (pa_cons pe_int (pa_cons (pv 5) pa_nil)))))))))))), ?_⟩
    refine q_any ⟨_, rfl, _, rfl, _, rfl, p, c, lp, k, n, pool, rfl, hP, by omega, hS.hp, hS.pp, hS.p1, hS.nd, hS.fn, fun H1 t ws K1 P1 ht hw => ?_⟩
    refine q_asg ev_c fun H2 X2 => ?_
    refine q_cut (M := fun σ' H' => ∃ m : Str, σ' = [some (.ref p), some (.str n), some (.ref ln), some (.ref lp), some (.bl leaf), some (.ref t), some (.str m), none] ∧ (m = "mark" ∨ (leaf = false ∧ (m = "link" ∨ m = "list"))) ∧ Kp p H H' ∧ Pen H' p c (k + 3) ∧ SqT K H' t (ws.map V.str)) ?_ ?_
    · refine s_when (b := !leaf) (et_not (et_B (ev_var rfl))) (fun q H3 X3 => ?_) (fun q H3 X3 => ?_)
      · have hlf : leaf = false := by simpa using q
        have P3 := P1.mono (X2.trans X3)
        refine oneL (K := K) (xs := [.str "link", .str "mark", .str "list", .str "link"]) rfl (el_lst (ea_cons ev_c (ea_cons ev_c (ea_cons ev_c (ea_cons ev_c ea_nil)))) (Nat.le_of_ble_eq_true rfl)) P3 (by omega) (by decide) (by decide) fun H4 v hv K4 P4 => ?_
        have ht4 := sqT_pen P3 K4 (ex_t (X2.trans X3) ht)
        have K04 : Kp p H H4 := Kp.trans K1 (Kp.trans (Kp.of (X2.trans X3)) K4)
        simp only [List.mem_cons, List.not_mem_nil, or_false] at hv
        rcases hv with rfl | rfl | rfl | rfl
        · exact ⟨"link", rfl, .inr ⟨hlf, .inl rfl⟩, K04, P4, ht4⟩
        · exact ⟨"mark", rfl, .inl rfl, K04, P4, ht4⟩
        · exact ⟨"list", rfl, .inr ⟨hlf, .inr rfl⟩, K04, P4, ht4⟩
        · exact ⟨"link", rfl, .inr ⟨hlf, .inl rfl⟩, K04, P4, ht4⟩
      · exact ⟨"mark", rfl, .inl rfl, Kp.trans K1 (Kp.of (X2.trans X3)), (P1.mono (X2.trans X3)).le (by omega), ex_t (X2.trans X3) ht⟩
    · rintro σ' H3 ⟨m, rfl, hm, K3, P3, ht3⟩
      have n20 := hS.n1
      refine q_when (b := decide (m = "mark")) (et_is (et_test (ev_op (ev_var rfl) ev_c (rv_eq rfl))) (by simp)) (fun q H4 X4 => ?_) (fun q H4 X4 => ?_)
      · have em : m = "mark" := of_decide_eq_true q
        subst em
        refine q_any (oneL (K := K) (xs := [.int 0, .int 0, .int (10 ^ 12 - 3), .int (1 - 10 ^ 12)]) rfl (el_lst (ea_cons ev_c (ea_cons ev_c (ea_cons (ev_op (ev_op ev_c ev_c (rv_I ⟨by decide, by decide, by decide⟩)) ev_c rv_I0) (ea_cons (ev_op ev_c (ev_op ev_c ev_c (rv_I ⟨by decide, by decide, by decide⟩)) rv_I0) ea_nil)))) (Nat.le_of_ble_eq_true rfl)) (P3.mono X4) (by omega) (by decide) (by decide) fun H5 v hv K5 P5 => ?_)
        obtain ⟨i, rfl, i0, i1⟩ : ∃ i : Int, v = .int i ∧ 1 - 10 ^ 12 ≤ i ∧ i ≤ 10 ^ 12 - 3 := by
          simp only [List.mem_cons, List.not_mem_nil, or_false] at hv
          rcases hv with rfl | rfl | rfl | rfl
          · exact ⟨0, rfl, by decide, by decide⟩
          · exact ⟨0, rfl, by decide, by decide⟩
          · exact ⟨_, rfl, by decide, by decide⟩
          · exact ⟨_, rfl, by decide, by decide⟩
        refine ⟨_, rfl, ?_⟩
        refine ⟨_, rfl, takeN (n := 3) rfl ev_c P5 (by omega) (by decide) (by decide) fun H6 d K6 P6 d0 d1 => ⟨i, d, rfl, rfl, _, rfl, by show 5 ≤ sizeLine; decide, fun r hr' => ?_⟩⟩
        have ht6 := sqT_pen P5 K6 (sqT_pen (P3.mono X4) K5 (ex_t X4 ht3))
        have X7 : Ex H6 (upd H6 r (.tup [.str n, .str "mark", .non, .int (i + d), .ref t])) := Ex.new hr'
        exact kont _ (.ref r) ⟨n, "mark", none, i + d, ws⟩ (Kp.trans K3 (Kp.trans (Kp.of X4) (Kp.trans K5 (Kp.trans K6 (Kp.of X7))))) ((P6.mono X7).le (by omega)) ⟨r, t, rfl, SqT.of upd_same, ex_t X7 ht6⟩ (mark_good hn ⟨by omega, by omega⟩ hw) rfl (fun _ => rfl) (fun t z => by cases z)
      · have nm : m ≠ "mark" := of_decide_eq_false q
        obtain ⟨hlf, hm2⟩ := hm.resolve_left nm
        have hS4 := (hS.kp K3).mono X4
        refine ⟨_, rfl, ⟨_, rfl, oneL (K := K) (xs := names.map V.str ++ [.str "any"]) rfl (el_catVL (K := K) (ev_var rfl) hS4.hn (el_lst (ea_cons ev_c ea_nil) (Nat.le_of_ble_eq_true rfl)) (by rw [List.length_map]; show _ + 1 ≤ _; omega)) (P3.mono X4) (by omega) (by rw [List.length_append]; show 0 < _ + 1; omega) (by rw [List.length_append, List.length_map]; show _ + 1 ≤ _; omega) fun H5 v hv K5 P5 => ?_⟩⟩
        obtain ⟨u, rfl, hu⟩ : ∃ u, v = .str u ∧ (u = "any" ∨ u ∈ names) := by
          rcases List.mem_append.mp hv with z | z
          · obtain ⟨u, hu, rfl⟩ := List.mem_map.mp z
            exact ⟨u, rfl, .inr hu⟩
          · exact ⟨"any", by simpa using z, .inl rfl⟩
        refine ⟨_, rfl, by show 5 ≤ sizeLine; decide, fun r hr' => ?_⟩
        have ht5 := sqT_pen (P3.mono X4) K5 (ex_t X4 ht3)
        have X7 : Ex H5 (upd H5 r (.tup [.str n, .str m, .str u, .int 0, .ref t])) := Ex.new hr'
        exact kont _ (.ref r) ⟨n, m, some u, 0, ws⟩ (Kp.trans K3 (Kp.trans (Kp.of X4) (Kp.trans K5 (Kp.of X7)))) ((P5.mono X7).le (by omega)) ⟨r, t, rfl, SqT.of upd_same, ex_t X7 ht5⟩ (link_good hn hm2 (hu.imp id fun z => hS.kn u z) hw) rfl (fun z => by rw [hlf] at z; cases z) (fun t z => by cases z; exact hu)
end
end K03

namespace K03
open PySem L2 Way Evl
theorem Kp.mut {p l : Addr} {H H' : Hp} {o : HO} (k : Kp p H H') (h : H l = none) : Kp p H (upd H' l o) := fun b u nb hb => by
  rw [upd_ne (ne_of_none hb h)]
  exact k b u nb hb
section
variable {σ : L2.St} {H : Hp} {D : Ends} {tz : TS} {ta : TA} {g : TG} {tb : TS}
def tGiv (vs : List V) : TA := fun _ H Q => Q vs H
theorem ea_giv {vs : List V} : EvA (tGiv vs) σ H vs := fun H1 _ _ q => q H1 (Ex.refl H1)
theorem for_seq (h : ta σ H fun vs H1 => tSeq (tFor (iRng1 (tGiv vs)) g tb) tz D σ H1) : tSeq (tFor (iRng1 ta) g tb) tz D σ H := h
end
section
variable {K : PySem.W.Frag} {H : Hp} {σ : L2.St} {t : TT} {te tl ta tb : TE} {α : Type} {P : α → V → Hp → Prop} {S S' : List α}
theorem el_seqL {g : TG} {vs : List Nat} {xs ys : List V} (h : EvL tl σ H xs) (k : ∀ p H1, H p = none → Ex H H1 → H1 p = some (.lst xs) → EvL (tLc (iList K (tC (.ref p))) g t te vs) σ H1 ys) : EvL (tLc (iList K tl) g t te vs) σ H ys := fun H1 e Q q =>
  h H1 e _ fun p H2 hn e2 h2 => k p H2 (fresh_back e hn) (e.trans e2) h2 H2 (Ex.refl H2) Q fun r H3 hr e3 h3 => q r H3 (fresh_back e2 hr) (e2.trans e3) h3
theorem ev_lenLN (h : EvN te σ H (LAt P S)) : Ev (tCB (rLenS K) (tCons te tNil)) σ H (.int (S.length : Int)) := fun H1 e Q q =>
  h H1 e _ fun p H2 hn e2 hq => by
    obtain ⟨p', xs, ep, h2, hx⟩ := hq
    cases ep
    refine ⟨p, xs, rfl, .inl (SqL.of h2), ?_⟩
    rw [Paired.length hx]
    exact q H2 e2
theorem ev_lenFlt {u : V} {j : Nat} {vs : List Nat} {g : α → Bool} (m : Mon P) (h : Ev tl σ H u) (hp : LAt P S u H) (hz : S.length ≤ 40000) (hj : j < σ.length) (hw : ∀ x, wipe ((wipe σ vs).set j (some x)) vs = wipe σ vs)
    (ht : ∀ (x : V) (i : α) H1, Ex H H1 → i ∈ S → P i x H1 → EvT t ((wipe σ vs).set j (some x)) H1 (g i)) : Ev (tCB (rLenS K) (tCons (tLc (iList K tl) (gName j) t (tVar j) vs) tNil)) σ H (.int ((S.filter g).length : Int)) := ev_lenLN (K := K) (en_fltL (K := K) m h hp hz hj hw ht)
theorem ev_lenFltN {j : Nat} {vs : List Nat} {g : α → Bool} (m : Mon P) (h : EvN tl σ H (LAt P S)) (hz : S.length ≤ 40000) (hj : j < σ.length) (hw : ∀ x, wipe ((wipe σ vs).set j (some x)) vs = wipe σ vs)
    (ht : ∀ (x : V) (i : α) H1, Ex H H1 → i ∈ S → P i x H1 → EvT t ((wipe σ vs).set j (some x)) H1 (g i)) : Ev (tCB (rLenS K) (tCons (tLc (iList K tl) (gName j) t (tVar j) vs) tNil)) σ H (.int ((S.filter g).length : Int)) := fun H1 e Q q =>
  h H1 e _ fun p H2 hn e2 hq => ev_lenFlt (K := K) (tl := tC (.ref p)) m ev_c hq hz hj hw (fun x i H3 e3 => ht x i H3 ((e.trans e2).trans e3)) H2 (Ex.refl H2) Q fun H3 e3 => q H3 (e2.trans e3)
theorem en_catV {a b : V} (m : Mon P) (h : Ev ta σ H a) (h2 : Ev tb σ H b) (ha : LAt P S a H) (hb : LAt P S' b H) (hz : S.length + S'.length ≤ 100000) : EvN (tOp rCat ta tb) σ H (LAt P (S ++ S')) := fun H1 e Q q => by
  obtain ⟨p, xs, rfl, h3, hx⟩ := ha
  obtain ⟨p', ys, rfl, h4, hy⟩ := hb
  refine h H1 e _ fun H2 e2 => h2 H2 (e.trans e2) _ fun H3 e3 => ⟨p, p', xs, ys, rfl, rfl, (e.trans (e2.trans e3)) _ _ h3, (e.trans (e2.trans e3)) _ _ h4, sz_of (by rw [Paired.length hx, Paired.length hy]; exact hz), fun t ht => ?_⟩
  have X4 : Ex H1 (upd H3 t (.lst (xs ++ ys))) := (e2.trans e3).trans (Ex.new ht)
  exact q t _ (fresh_back (e2.trans e3) ht) X4 ⟨t, _, rfl, upd_same, pr_append (Paired.mapP hx fun _ _ z => m _ _ _ _ (e.trans X4) z) (Paired.mapP hy fun _ _ z => m _ _ _ _ (e.trans X4) z)⟩
theorem ev_lenLA {v : V} (h : Ev te σ H v) (hp : LAt P S v H) : Ev (tCB (rLenS K) (tCons te tNil)) σ H (.int (S.length : Int)) := by
  obtain ⟨p, xs, rfl, h2, hx⟩ := hp
  exact ev_is (ev_cb (ea_cons h ea_nil) (rc_lenL (K := K) (sq_of h2))) (by rw [Paired.length hx])
end
theorem lat_pen {α : Type} {P : α → V → Hp → Prop} {S : List α} {H H' : Hp} {p c : Addr} {k : Nat} {v : V} (hP : Pen H p c k) (kp : Kp p H H') (hm : ∀ i x, P i x H → P i x H') (h : LAt P S v H) : LAt P S v H' := by
  obtain ⟨l, xs, rfl, h1, hx⟩ := h
  obtain ⟨kv, hk⟩ := hP.here
  exact ⟨l, xs, rfl, kp _ _ (fun e => by rw [e, hk] at h1; cases h1) h1, Paired.mapP hx fun _ _ z => hm _ _ z⟩
theorem row_ne {p c a : Addr} {H : Hp} {k : Nat} {r : Kd} {o : Addr} (h : Pen H p c k) (ha : H a = some (.dK (kdK r o))) : a ≠ p := fun e => by
  obtain ⟨_, _, _, _, _, _, h1, _⟩ := h
  rw [e, h1] at ha
  have := congrArg (fun o => match o with | some (HO.dK kv) => kv.length | _ => 0) ha
  simp [penK, kdK, rowK] at this
theorem rowAt_pen {K : PySem.W.Frag} {H H' : Hp} {p c : Addr} {k : Nat} {r : Kd} {v : V} (hP : Pen H p c k) (kp : Kp p H H') (h : RowAt K r v H) : RowAt K r v H' := by
  obtain ⟨a, o, xs, rfl, h1, h2, h3⟩ := h
  obtain ⟨kv, hk⟩ := hP.here
  exact ⟨a, o, xs, rfl, kp _ _ (row_ne hP h1) h1, kp _ _ (fun e => by rw [e, hk] at h2; cases h2) h2, Paired.mapP h3 fun _ _ z => ftAt_pen hP kp z⟩
theorem rsAt_pen {K : PySem.W.Frag} {H H' : Hp} {p c : Addr} {k : Nat} {rs : List Kd} {l : Addr} (hP : Pen H p c k) (kp : Kp p H H') (h : RsAt K rs l H) : RsAt K rs l H' := lat_pen hP kp (fun _ _ z => rowAt_pen hP kp z) h
theorem flt_len2 {ws ns : List Str} (nd : ws.Nodup) : ws.length ≤ (ws.filter fun x => !decide (x ∈ ns)).length + ns.length := by
  have := nod_le nd (m := ns ++ ws.filter fun x => !decide (x ∈ ns)) fun x hx => by
    by_cases e : x ∈ ns
    · exact List.mem_append_left _ e
    · exact List.mem_append_right _ (List.mem_filter.mpr ⟨hx, by simpa using e⟩)
  rw [List.length_append] at this
  omega
/-- a row that is drawn behind the rows rs -/
structure NR (names : List Str) (rs : List Kd) (r : Kd) : Prop where
  n : names[rs.length]? = some r.name
  l : r.fields.length ≤ 4
  f : ∀ f ∈ r.fields, FGood f ∧ ∀ t, f.tgt = some t → t = "any" ∨ t ∈ names
  b : ∀ b, r.base = some b → r.frozen = false ∧ r.heirs = false ∧ ∃ rb ∈ rs, rb.name = b ∧ rb.heirs = true
  h : r.heirs = true → r.frozen = false ∧ r.key = none ∧ r.base = none
  nd : ((gath rs r).map Fd.name).Nodup
  k : ∀ y, r.key = some y → (∀ f ∈ gath rs r, f.mode = "mark") ∧ y ∈ (gath rs r).map Fd.name
  g : r.registered = true → r.key ≠ none
  z : rs = [] → r.key = none
def Inv (names : List Str) (rs : List Kd) : Prop := ∀ i r, rs[i]? = some r → NR names (rs.take i) r
theorem Inv.snoc {names : List Str} {rs : List Kd} {r : Kd} (h : Inv names rs) (n : NR names rs r) : Inv names (rs ++ [r]) := fun i x hx => by
  by_cases hi : i < rs.length
  · rw [List.getElem?_append_left hi] at hx
    rw [List.take_append_of_le_length (by omega)]
    exact h i x hx
  · have h1 := (List.getElem?_eq_some_iff.mp hx).1
    rw [List.length_append, List.length_singleton] at h1
    have : i = rs.length := by omega
    subst this
    rw [List.getElem?_append_right (by omega), Nat.sub_self] at hx
    cases hx
    rw [List.take_append_of_le_length (by omega), List.take_length]
    exact n
theorem Inv.nms {names : List Str} {rs : List Kd} (h : Inv names rs) : nms rs = names.take rs.length := by
  refine List.ext_getElem? fun i => ?_
  unfold K03.nms
  rw [List.getElem?_map]
  by_cases hi : i < rs.length
  · rw [List.getElem?_take_of_lt hi, List.getElem?_eq_getElem hi]
    have := (h i _ (List.getElem?_eq_getElem hi)).n
    rw [List.length_take, Nat.min_eq_left (by omega)] at this
    exact this.symm
  · rw [List.getElem?_eq_none (by omega), List.getElem?_eq_none (by rw [List.length_take]; omega)]; rfl
theorem Inv.nd {names : List Str} {rs : List Kd} (h : Inv names rs) (nd : names.Nodup) : (K03.nms rs).Nodup := by
  rw [h.nms]; exact nd.sublist (List.take_sublist _ _)
theorem Inv.mem {names : List Str} {rs : List Kd} (h : Inv names rs) {r : Kd} (hr : r ∈ rs) : ∃ i, i < rs.length ∧ rs[i]? = some r ∧ NR names (rs.take i) r := by
  obtain ⟨i, hi⟩ := List.getElem?_of_mem hr
  exact ⟨i, (List.getElem?_eq_some_iff.mp hi).1, hi, h i r hi⟩
theorem gath_base {rs : List Kd} {r : Kd} (h : r.base = none) : gath rs r = r.fields := by unfold gath baseFs; rw [h]; rfl
theorem gath_heir {rs : List Kd} {r rb : Kd} {b : Str} (h : r.base = some b) (hb : kfind rs b = some rb) : gath rs r = rb.fields ++ r.fields := by unfold gath baseFs; rw [h]; simp only [hb]
def FLV : List Str := ["plain", "open", "frozen", "keyed", "registered", "heir"]
def FLok (rs : List Kd) (x : Str) : Prop := x ∈ FLV ∧ (x = "keyed" ∨ x = "registered" → rs ≠ []) ∧ (x = "heir" → ∃ r ∈ rs, r.heirs = true)
def spFlav (K : PySem.W.Frag) : Sp := fun vs H Q _ => ∃ (p c l : Addr) (k : Nat) (rs : List Kd), vs = [.ref p, .ref l] ∧ Pen H p c k ∧ k ≤ 70000 ∧ RsAt K rs l H ∧ rs.length ≤ 12 ∧ ∀ H' x, Kp p H H' → Pen H' p c (k + 1) → FLok rs x → Q (.str x) H'
section
variable {P : Program} {w : World} {K : PySem.W.Frag} {mg : Str → Option Value} {base : Heap}
theorem ok_flavour (T : Txt P K mg) : FnOk P w K mg base CX0 3 T.f_flavour T.d_flavour P_flavour (spFlav K) := by
  have G_one_of := ok_one_of (P := P) (w := w) (base := base) T
  refine T.F_flavour.ok sc_flavour (fun vs H Q E h => ?_) (fun cdv A outer s H vs Q E hr h => ?_)
  · obtain ⟨p, c, l, k, rs, rfl, _⟩ := h
    rfl
  · obtain ⟨p, c, l, k, rs, rfl, hP, hk, hl, hz, kont⟩ := h
    refine ⟨_, (pss_cons (ps_set (i := 2) sc_flavour.nd rfl (Or.inl rfl) (pe_lst (pa_cons pe_str (pa_cons pe_str (pa_cons pe_str (pa_cons pe_str pa_nil))))))
      (pss_cut (ps_if (pt_cmpR op_gt (pe_callB call_len_seq (by rfl) T.b_len (by decide +kernel) (pa_cons (pv 1) pa_nil)) pe_int (nomark _)) (pss_one (ps_set (i := 2) sc_flavour.nd rfl (Or.inl rfl) (pe_op op_cat (pv 2) (pe_lst (pa_cons pe_str (pa_cons pe_str pa_nil)))))) pss_nil)
      (pss_cut (ps_if (pt_cmpR op_gt (pe_callB call_len_seq (by rfl) T.b_len (by decide +kernel) (pa_cons (pe_lc (own := [("_law_row_here", 3)]) (g := gName 3) (by rfl) sc_flavour.nd (pi_list (pv 1)) (blkOk_by (own := [("_law_row_here", 3)]) (N := N_flavour) (sc := defScope s_flavour) (by decide +kernel)) (fun _ _ _ _ _ => (pg_name (i := 3) sc_flavour.nd rfl (Or.inl rfl))) (fun _ _ _ _ _ => (pts_one (pt_val (pe_dget (hu_of hr) (pv 3) pe_str (fun _ _ => rfl))))) (fun _ _ _ _ _ => (pv 3))) pa_nil)) pe_int (nomark _)) (pss_one (ps_set (i := 2) sc_flavour.nd rfl (Or.inl rfl) (pe_op op_cat (pv 2) (pe_lst (pa_cons pe_str (pa_cons pe_str (pa_cons pe_str pa_nil))))))) pss_nil)
      (pss_one (ps_ret (pe_call G_one_of hr (by rfl) T.g_one_of T.F_one_of.kp T.B_one_of .nil pass0 (pa_cons (pv 0) (pa_cons (pv 2) pa_nil)))))))), ?_⟩
    refine q_asgL (el_lst (vs := [.str "plain", .str "open", .str "frozen", .str "plain"]) (ea_cons ev_c (ea_cons ev_c (ea_cons ev_c (ea_cons ev_c ea_nil)))) (Nat.le_of_ble_eq_true rfl)) fun f1 H1 hf1 X1 h1 => ?_
    refine q_cut (M := fun σ' H' => ∃ (f : Addr) (xs : List Str), σ' = [some (.ref p), some (.ref l), some (.ref f), none] ∧ Ex H H' ∧ H' f = some (.lst (xs.map V.str)) ∧ 0 < xs.length ∧ xs.length ≤ 10 ∧ ∀ x ∈ xs, FLok rs x) ?_ ?_
    · refine s_when (b := decide ((0 : Int) < (rs.length : Int))) (et_test (ev_op (ev_lenLA (K := K) (ev_var rfl) (hl.mono rowAt_mono X1)) ev_c rv_I0)) (fun q H2 X2 => ?_) (fun q H2 X2 => ?_)
      · have hne : rs ≠ [] := fun z => by rw [z] at q; exact absurd q (by decide)
        refine s_asgL (el_catVL (K := K) (ys := [.str "keyed", .str "registered"]) (ev_var rfl) (X2 _ _ h1) (el_lst (ea_cons ev_c (ea_cons ev_c ea_nil)) (Nat.le_of_ble_eq_true rfl)) (by decide)) fun f2 H3 hf2 X3 h3 => ?_
        refine ⟨f2, ["plain", "open", "frozen", "plain", "keyed", "registered"], rfl, X1.trans (X2.trans X3), h3, by decide, by decide, fun x hx => ?_⟩
        have : ∀ x ∈ (["plain", "open", "frozen", "plain", "keyed", "registered"] : List Str), x ∈ FLV ∧ x ≠ "heir" := by decide +kernel
        exact ⟨(this x hx).1, fun _ => hne, fun z => absurd z (this x hx).2⟩
      · refine ⟨f1, ["plain", "open", "frozen", "plain"], rfl, X1.trans X2, X2 _ _ h1, by decide, by decide, fun x hx => ?_⟩
        have : ∀ x ∈ (["plain", "open", "frozen", "plain"] : List Str), x ∈ FLV ∧ x ≠ "heir" ∧ x ≠ "keyed" ∧ x ≠ "registered" := by decide +kernel
        have := this x hx
        exact ⟨this.1, fun z => z.elim (fun z => absurd z this.2.2.1) fun z => absurd z this.2.2.2, fun z => absurd z this.2.1⟩
    · rintro σ' H2 ⟨f, xs, rfl, X2, h2, x0, x10, hx⟩
      refine q_cut (M := fun σ' H' => ∃ (f : Addr) (xs : List Str), σ' = [some (.ref p), some (.ref l), some (.ref f), none] ∧ Ex H H' ∧ H' f = some (.lst (xs.map V.str)) ∧ 0 < xs.length ∧ xs.length ≤ 20 ∧ ∀ x ∈ xs, FLok rs x) ?_ ?_
      · refine s_when (b := decide ((0 : Int) < ((rs.filter Kd.heirs).length : Int))) (et_test (ev_op (ev_lenFlt (K := K) (g := Kd.heirs) rowAt_mono (ev_var rfl) (hl.mono rowAt_mono X2) (by omega) (by show 3 < 4; decide) (fun _ => rfl) fun x r H3 X3 hr hx => et_B (ev_heirs (ev_var rfl) hx)) ev_c rv_I0)) (fun q H3 X3 => ?_) (fun q H3 X3 => ?_)
        · obtain ⟨r, hr'⟩ : ∃ r, r ∈ rs.filter Kd.heirs := by
            cases e : rs.filter Kd.heirs with
            | nil => rw [e] at q; exact absurd q (by decide)
            | cons r _ => exact ⟨r, List.mem_cons_self ..⟩
          rw [List.mem_filter] at hr'
          refine s_asgL (el_catVL (K := K) (ys := [.str "heir", .str "heir", .str "heir"]) (ev_var rfl) (X3 _ _ h2) (el_lst (ea_cons ev_c (ea_cons ev_c (ea_cons ev_c ea_nil))) (Nat.le_of_ble_eq_true rfl)) (by rw [List.length_map]; show _ + 3 ≤ _; omega)) fun f3 H4 hf3 X4 h4 => ?_
          refine ⟨f3, xs ++ (["heir", "heir", "heir"] : List Str), rfl, X2.trans (X3.trans X4), by rw [h4, List.map_append]; rfl, by rw [List.length_append]; omega, by rw [List.length_append]; show _ + 3 ≤ _; omega, fun x hx' => ?_⟩
          rcases List.mem_append.mp hx' with z | z
          · exact hx x z
          · have : x = "heir" := by simpa using z
            subst this
            exact ⟨by decide +kernel, fun z => by rcases z with z | z <;> exact absurd z (by decide +kernel), fun _ => ⟨r, hr'.1, hr'.2⟩⟩
        · exact ⟨f, xs, rfl, X2.trans X3, X3 _ _ h2, x0, by omega, hx⟩
      · rintro σ' H3 ⟨f, xs, rfl, X3, h3, x0, x20, hx⟩
        refine oneV (K := K) rfl (ev_var rfl) h3 (hP.mono X3) (by omega) (by rw [List.length_map]; exact x0) (by rw [List.length_map]; omega) fun H4 v hv K4 P4 => ?_
        obtain ⟨x, hx', rfl⟩ := List.mem_map.mp hv
        exact kont H4 x (Kp.trans (Kp.of X3) K4) P4 (hx x hx')
end
end K03

namespace K03
open PySem L2 Way Evl
theorem pr_memV {α : Type} {R : V → α → Prop} {xs : List V} {S : List α} (h : Paired R xs S) {v : V} (hv : v ∈ xs) : ∃ y, y ∈ S ∧ R v y := by
  induction h with
  | nil => cases hv
  | cons a _ ih =>
    rcases List.mem_cons.mp hv with rfl | z
    · exact ⟨_, List.mem_cons_self .., a⟩
    · obtain ⟨y, h1, h2⟩ := ih z
      exact ⟨y, List.mem_cons_of_mem _ h1, h2⟩
section
variable {K : PySem.W.Frag} {tl : TE} {σ : L2.St} {H : Hp} {p c : Addr} {k j : Nat} {E : XK} {Q : VK} {α : Type} {P : α → V → Hp → Prop} {S : List α}
/-- one of the things that stand in a list -/
theorem oneA {u : V} (hσ : σ[j]? = some (some (.ref p))) (hl : Ev tl σ H u) (hu : LAt P S u H) (m : Mon P) (hP : Pen H p c k) (hk : k ≤ 90000) (h0 : 0 < S.length) (h1 : S.length ≤ 100) (hpk : ∀ H1 H2 i x, Pen H1 p c k → Kp p H1 H2 → P i x H1 → P i x H2)
    (kont : ∀ H' v y, y ∈ S → P y v H' → Kp p H H' → Pen H' p c (k + 1) → Q v H') : tCall (spOneOf K) [] E (tCons (tVar j) (tCons tl tNil)) σ H Q := by
  obtain ⟨l, xs, rfl, h2, hx⟩ := hu
  have lx : xs.length = S.length := Paired.length hx
  refine oneV (K := K) hσ hl h2 hP hk (by omega) (by omega) fun H' v hv K1 P1 => ?_
  obtain ⟨y, hy, py⟩ := pr_memV hx hv
  exact kont H' v y hy (hpk _ _ _ _ hP K1 py) K1 P1
theorem oneN (hσ : σ[j]? = some (some (.ref p))) (hl : EvN tl σ H (LAt P S)) (hP : Pen H p c k) (hk : k ≤ 90000) (h0 : 0 < S.length) (h1 : S.length ≤ 100) (hpk : ∀ H1 H2 i x, Pen H1 p c k → Kp p H1 H2 → P i x H1 → P i x H2)
    (kont : ∀ H' v y, y ∈ S → P y v H' → Kp p H H' → Pen H' p c (k + 1) → Q v H') : tCall (spOneOf K) [] E (tCons (tVar j) (tCons tl tNil)) σ H Q :=
  ⟨_, hσ, hl H (Ex.refl H) _ fun l H1 hn X1 hq => by
    obtain ⟨l', xs, e, h2, hx⟩ := hq
    cases e
    have lx : xs.length = S.length := Paired.length hx
    exact ⟨p, c, l, k, xs, rfl, hP.mono X1, hk, h2, hP.ne hn, by omega, by omega, fun H2 v hv K2 P2 => by
      obtain ⟨y, hy, py⟩ := pr_memV hx hv
      exact kont H2 v y hy (hpk _ _ _ _ (hP.mono X1) K2 py) (Kp.trans (Kp.of X1) K2) P2⟩⟩
end
def spNR (K : PySem.W.Frag) : Sp := fun vs H Q _ => ∃ (p c l ln lp : Addr) (k : Nat) (rs : List Kd) (names pool : List Str), vs = [.ref p, .ref l, .ref ln, .ref lp] ∧ Pen H p c k ∧ k ≤ 60000 ∧ RsAt K rs l H ∧ Src H p ln lp names pool ∧ Inv names rs ∧ names.Nodup ∧ rs.length < names.length ∧ names.length ≤ 12 ∧
  ∀ H' a r, H a = none → Kp p H H' → Pen H' p c (k + 40) → RowAt K r (.ref a) H' → (∀ r' o, H' a = some (.dK (kdK r' o)) → H o = none) → NR names rs r → Q (.ref a) H'
theorem kdK_own {r r' : Kd} {o o' : Addr} (h : kdK r o = kdK r' o') : o = o' := by
  have h1 : valV (kdK r o) (.inr "own") = some (.ref o) := rk_own
  have h2 : valV (kdK r' o') (.inr "own") = some (.ref o') := rk_own
  rw [h, h2] at h1
  exact (V.ref.inj (Option.some.inj h1)).symm
theorem NR.base0 {names : List Str} {rs : List Kd} {r : Kd} (h : NR names rs r) (q : r.heirs = true) : r.base = none := (h.h q).2.2
/-- what new_row has drawn is a row -/
theorem nr_of {names free : List Str} {rs : List Kd} {x nm : Str} {ob ok : Option Str} {fs os : List Fd} {n : Nat} (hI : Inv names rs) (hnd : names.Nodup) (hx : FLok rs x) (hnm : names[rs.length]? = some nm)
    (hh : x = "heir" → ∃ rb, rb ∈ rs ∧ ob = some rb.name ∧ rb.heirs = true ∧ rb.base = none ∧ fs = rb.fields) (nh : x ≠ "heir" → ob = none ∧ fs = []) (fn : free.Nodup) (fd : ∀ y ∈ free, y ∉ fs.map Fd.name) (ho : os.map Fd.name = free.take n) (hn : n ≤ 4)
    (hf : ∀ f ∈ os, FGood f ∧ ∀ t, f.tgt = some t → t = "any" ∨ t ∈ names) (hk : ∀ y, ok = some y → (∀ f ∈ fs ++ os, f.mode = "mark") ∧ y ∈ (fs ++ os).map Fd.name) (k0 : x ≠ "heir" → x ≠ "keyed" → x ≠ "registered" → ok = none) (k1 : x = "registered" → ok ≠ none) :
    NR names rs ⟨nm, os, ob, decide (x = "frozen"), decide (x = "open"), ok, decide (x = "registered")⟩ := by
  have nd := hI.nd hnd
  have hg : gath rs ⟨nm, os, ob, decide (x = "frozen"), decide (x = "open"), ok, decide (x = "registered")⟩ = fs ++ os := by
    by_cases e : x = "heir"
    · obtain ⟨rb, hrb, h1, h2, h3, h4⟩ := hh e
      rw [gath_heir (rb := rb) (b := rb.name) h1 (kfind_self nd hrb), h4]
    · obtain ⟨h1, h2⟩ := nh e
      rw [gath_base (by exact h1), h2]; rfl
  have lo : os.length ≤ 4 := by
    have := congrArg List.length ho
    rw [List.length_map, List.length_take] at this
    omega
  refine ⟨hnm, lo, hf, fun b hb => ?_, fun z => ?_, ?_, fun y hy => ?_, fun z => k1 (of_decide_eq_true z), fun z => ?_⟩
  · have e : x = "heir" := Classical.byContradiction fun z => by
      have := (nh z).1
      rw [this] at hb; cases hb
    obtain ⟨rb, hrb, h1, h2, h3, h4⟩ := hh e
    have hb' : ob = some b := hb
    rw [h1] at hb'
    cases hb'
    subst e
    exact ⟨(by show decide (("heir" : Str) = "frozen") = false; decide +kernel), (by show decide (("heir" : Str) = "open") = false; decide +kernel), rb, hrb, rfl, h2⟩
  · have e : x = "open" := of_decide_eq_true z
    subst e
    exact ⟨(by show decide (("open" : Str) = "frozen") = false; decide +kernel), k0 (by decide +kernel) (by decide +kernel) (by decide +kernel), (nh (by decide +kernel)).1⟩
  · rw [hg, List.map_append, ho, List.nodup_append]
    refine ⟨?_, fn.sublist (List.take_sublist _ _), fun a ha b hb e => fd b (List.mem_of_mem_take hb) (by rw [← e]; exact ha)⟩
    by_cases e : x = "heir"
    · obtain ⟨rb, hrb, h1, h2, h3, h4⟩ := hh e
      obtain ⟨i, hi, h5, h6⟩ := hI.mem hrb
      have := h6.nd
      rw [gath_base h3] at this
      rw [h4]; exact this
    · rw [(nh e).2]; exact List.nodup_nil
  · rw [hg]; exact hk y hy
  · refine k0 (fun e => ?_) (fun e => hx.2.1 (.inl e) z) (fun e => hx.2.1 (.inr e) z)
    obtain ⟨r, hr, _⟩ := hx.2.2 e
    rw [z] at hr; cases hr
section
variable {P : Program} {w : World} {K : PySem.W.Frag} {mg : Str → Option Value} {base : Heap}
theorem ok_new_row (T : Txt P K mg) : FnOk P w K mg base CX0 5 T.f_new_row T.d_new_row P_new_row (spNR K) := by
  have G_flavour := ok_flavour (P := P) (w := w) (base := base) T
  have G_take := ok_take (P := P) (w := w) (base := base) T
  have G_one_of := ok_one_of (P := P) (w := w) (base := base) T
  have G_all_fields := ok_all_fields (P := P) (w := w) (base := base) T
  have G_field := ok_field (P := P) (w := w) (base := base) T
  refine T.F_new_row.ok sc_new_row (fun vs H Q E h => ?_) (fun cdv A outer s H vs Q E hr h => ?_)
  · obtain ⟨p, c, l, ln, lp, k, rs, names, pool, rfl, _⟩ := h
    rfl
  · obtain ⟨p, c, l, ln, lp, k, rs, names, pool, rfl, hP, hk, hl, hS, hI, hnd, hlt, hn6, kont⟩ := h
    refine ⟨_, (pss_cons (ps_set (i := 4) sc_new_row.nd rfl (Or.inl rfl) (pe_call G_flavour (hr.mono (by decide)) (by rfl) T.g_flavour T.F_flavour.kp T.B_flavour .nil pass0 (pa_cons (pv 0) (pa_cons (pv 1) pa_nil))))
      (pss_cons (ps_set (i := 5) sc_new_row.nd rfl (Or.inl rfl) pe_non)
      (pss_cons (ps_set (i := 6) sc_new_row.nd rfl (Or.inr rfl) (pe_lst pa_nil))
      (pss_cut (ps_if (pt_cmpR op_eq (pv 4) pe_str (nomark _)) (pss_cons (ps_set (i := 5) sc_new_row.nd rfl (Or.inl rfl) (pe_call G_one_of (hr.mono (by decide)) (by rfl) T.g_one_of T.F_one_of.kp T.B_one_of .nil pass0 (pa_cons (pv 0) (pa_cons (pe_lc (own := [("_law_row_here", 15)]) (g := gName 15) (by rfl) sc_new_row.nd (pi_list (pv 1)) (blkOk_by (own := [("_law_row_here", 15)]) (N := N_new_row) (sc := defScope s_new_row) (by decide +kernel)) (fun _ _ _ _ _ => (pg_name (i := 15) sc_new_row.nd rfl (Or.inl rfl))) (fun _ _ _ _ _ => (pts_one (pt_val (pe_dget (hu_of hr) (pv 15) pe_str (fun _ _ => rfl))))) (fun _ _ _ _ _ => (pe_dget (hu_of hr) (pv 15) pe_str (fun _ _ => rfl)))) pa_nil))))
      (pss_one (ps_set (i := 6) sc_new_row.nd rfl (Or.inr rfl) (pe_call G_all_fields (hr.mono (by decide)) (by rfl) T.g_all_fields T.F_all_fields.kp T.B_all_fields .nil pass0 (pa_cons (pv 1) (pa_cons (pv 5) pa_nil)))))) pss_nil)
      (pss_cons (ps_set (i := 7) sc_new_row.nd rfl (Or.inl rfl) (pe_cmpR op_in_seq (pv 4) (pe_lst (pa_cons pe_str (pa_cons pe_str pa_nil))) (by rfl)))
      (pss_cons (ps_set (i := 8) sc_new_row.nd rfl (Or.inl rfl) pe_int)
      (pss_cut (ps_if (pt_val (pv 7)) (pss_one (ps_set (i := 8) sc_new_row.nd rfl (Or.inl rfl) pe_int)) pss_nil)
      (pss_cons (ps_set (i := 9) sc_new_row.nd rfl (Or.inl rfl) (pe_call G_take (hr.mono (by decide)) (by rfl) T.g_take T.F_take.kp T.B_take .nil pass0 (pa_cons (pv 0) (pa_cons (pe_callB call_len_seq (by rfl) T.b_len (by decide +kernel) (pa_cons (pv 3) pa_nil)) pa_nil))))
      (pss_cons (ps_setLc (i := 10) (own := [("_law_word_here", 16)]) (g := gName 16) (by rfl) sc_new_row.nd rfl rfl (sw_true rfl rfl rfl (by decide +kernel)) (pi_list (pe_op op_cat (pe_slice sl_list (pv 3) (po_some (pv 9)) po_none) (pe_slice sl_list (pv 3) po_none (po_some (pv 9))))) (blkOk_by (own := [("_law_word_here", 16)]) (N := N_new_row) (sc := defScope s_new_row) (by decide +kernel)) (fun _ _ _ _ _ => (pg_name (i := 16) sc_new_row.nd rfl (Or.inl rfl))) (fun _ _ _ _ _ => (pts_one (pt_cmpR (Way.kk_notin (K := K)) (pv 16) (pe_lc (own := [("_law_field_here", 17)]) (g := gName 17) (by rfl) sc_new_row.nd (Way.kk_piL (K := K) (pv 6)) (blkOk_by (by kernel_rfl)) (fun _ _ _ _ _ => (pg_name (i := 17) sc_new_row.nd rfl (Or.inl rfl))) (fun _ _ _ _ _ => pts_nil) (fun _ _ _ _ _ => (pe_ix (Way.kk_ixT (K := K)) (pv 17) pe_int (fun _ _ => rfl)))) (by rfl)))) (fun _ _ _ _ _ => (pv 16)))
      (pss_cons (ps_set (i := 11) sc_new_row.nd rfl (Or.inl rfl) (pe_lst pa_nil))
      (pss_cons (ps_for PassesOwn.never rfl (pi_range1 (by rfl) T.b_range (pa_cons (pe_op op_add (pv 8) (pe_call G_take (hr.mono (by decide)) (by rfl) T.g_take T.F_take.kp T.B_take .nil pass0 (pa_cons (pv 0) (pa_cons (pe_op op_sub pe_int (pv 8)) pa_nil)))) pa_nil)) (pg_name (i := 12) sc_new_row.nd rfl (Or.inl rfl)) (pss_one (ps_expr (pe_bm PySem.F.plainAttrs_list PySem.F.slot_list_append PySem.F.type_list_append mt_append (pv 11) (pa_cons (pe_call G_field hr (by rfl) T.g_field T.F_field.kp T.B_field .nil pass0 (pa_cons (pv 0) (pa_cons (pe_ix ix_list (pv 10) (pv 12) (fun _ _ => rfl)) (pa_cons (pv 2) (pa_cons (pv 3) (pa_cons (pv 7) pa_nil)))))) pa_nil)))))
      (pss_cons (ps_set (i := 13) sc_new_row.nd rfl (Or.inl rfl) pe_non)
      (pss_cut (ps_if (pt_val (pv 7)) (pss_one (ps_set (i := 13) sc_new_row.nd rfl (Or.inl rfl) (pe_ix ix_tup (pe_call G_one_of (hr.mono (by decide)) (by rfl) T.g_one_of T.F_one_of.kp T.B_one_of .nil pass0 (pa_cons (pv 0) (pa_cons (pv 11) pa_nil))) pe_int (fun _ _ => rfl)))) pss_nil)
      (pss_cons (ps_set (i := 14) sc_new_row.nd rfl (Or.inl rfl) (pe_cmpR op_eq (pe_callB call_len_seq (by rfl) T.b_len (by decide +kernel) (pa_cons (pe_lc (own := [("_law_field_here", 17)]) (g := gName 17) (by rfl) sc_new_row.nd (pi_list (pe_op op_cat (pv 6) (pv 11))) (blkOk_by (own := [("_law_field_here", 17)]) (N := N_new_row) (sc := defScope s_new_row) (by decide +kernel)) (fun _ _ _ _ _ => (pg_name (i := 17) sc_new_row.nd rfl (Or.inl rfl))) (fun _ _ _ _ _ => (pts_one (pt_cmpR op_ne (pe_ix (Way.kk_ixT (K := K)) (pv 17) pe_int (fun _ _ => rfl)) pe_str (nomark _)))) (fun _ _ _ _ _ => (pv 17))) pa_nil)) pe_int (nomark _)))
      (pss_cut (ps_if (PW.pt (pw_and (pt_cmpR op_eq (pv 4) pe_str (nomark _)) (pw_and (pt_val (pv 14)) (pw_and (pt_cmpR op_gt (pe_callB call_len_seq (by rfl) T.b_len (by decide +kernel) (pa_cons (pe_op op_cat (pv 6) (pv 11)) pa_nil)) pe_int (nomark _)) (pw_and1 (pt_cmpR op_eq (pe_call G_take (hr.mono (by decide)) (by rfl) T.g_take T.F_take.kp T.B_take .nil pass0 (pa_cons (pv 0) (pa_cons pe_int pa_nil))) pe_int (nomark _))))))) (pss_one (ps_set (i := 13) sc_new_row.nd rfl (Or.inl rfl) (pe_ix ix_tup (pe_call G_one_of (hr.mono (by decide)) (by rfl) T.g_one_of T.F_one_of.kp T.B_one_of .nil pass0 (pa_cons (pv 0) (pa_cons (pe_op op_cat (pv 6) (pv 11)) pa_nil))) pe_int (fun _ _ => rfl)))) pss_nil)
      (pss_one (ps_ret (pe_disp (pps_cons pe_str (pe_ix ix_list (pv 2) (pe_callB call_len_seq (by rfl) T.b_len (by decide +kernel) (pa_cons (pv 1) pa_nil)) (fun _ _ => rfl)) (pps_cons pe_str (pv 5) (pps_cons pe_str (pe_cmpR op_eq (pv 4) pe_str (nomark _)) (pps_cons pe_str (pe_cmpR op_eq (pv 4) pe_str (nomark _)) (pps_cons pe_str (pv 13) (pps_cons pe_str (pe_cmpR op_eq (pv 4) pe_str (nomark _)) (pps_cons pe_str (pv 11) pps_nil))))))) (by rfl) (by rfl) (fun z => by cases z) (by decide))))))))))))))))))), ?_⟩
    refine q_any ⟨_, rfl, _, rfl, p, c, l, k, rs, rfl, hP, by omega, hl, by omega, fun H1 x K1 P1 hx => ?_⟩
    refine q_asg ev_c fun H2 X2 => ?_
    refine q_asgL (el_lst ea_nil (Nat.zero_le _)) fun hb H3 hhb X3 h3 => ?_
    have K3 : Kp p H H3 := Kp.trans K1 (Kp.of (X2.trans X3))
    have P3 := P1.mono (X2.trans X3)
    have nd := hI.nd hnd
    have z100 : rs.length ≤ 100 := by omega
    refine q_cut (M := fun σ' H' => ∃ (ob : Option Str) (hb : Addr) (fs : List Fd), σ' = [some (.ref p), some (.ref l), some (.ref ln), some (.ref lp), some (.str x), some (oV ob), some (.ref hb), none, none, none, none, none, none, none, none, none, none, none] ∧ LAt (FtAt K) fs (.ref hb) H' ∧ Kp p H H' ∧ Pen H' p c (k + 2) ∧ (x = "heir" → ∃ rb, rb ∈ rs ∧ ob = some rb.name ∧ rb.heirs = true ∧ rb.base = none ∧ fs = rb.fields) ∧ (x ≠ "heir" → ob = none ∧ fs = [])) ?_ ?_
    · refine s_when (b := decide (x = "heir")) (et_is (et_test (ev_op (ev_var rfl) ev_c (rv_eq rfl))) (by simp)) (fun q H4 X4 => ?_) (fun q H4 X4 => ?_)
      · have ex : x = "heir" := of_decide_eq_true q
        have P4 := P3.mono X4
        have hl4 := (rsAt_pen hP K3 hl).mono rowAt_mono X4
        have hne : 0 < ((rs.filter Kd.heirs).map fun r : Kd => V.str r.name).length := by
          obtain ⟨r, h1, h2⟩ := hx.2.2 ex
          rw [List.length_map]
          exact List.length_pos_of_mem (List.mem_filter.mpr ⟨h1, h2⟩)
        have hle : ((rs.filter Kd.heirs).map fun r : Kd => V.str r.name).length ≤ 100 := by
          rw [List.length_map]
          have := List.length_filter_le Kd.heirs rs
          omega
        refine q_any (oneL (K := K) (xs := (rs.filter Kd.heirs).map fun r : Kd => V.str r.name) rfl (el_fmL (K := K) (α := Kd) (g := Kd.heirs) (w := fun r : Kd => V.str r.name) rowAt_mono (ev_var rfl) hl4 (by omega) (fun _ => rfl) (fun x r H5 X5 hr hx => et_B (ev_heirs (ev_var rfl) hx)) fun x r H5 X5 hr hx => ev_name (ev_var rfl) hx) P4 (by omega) hne hle fun H5 v hv K5 P5 => ?_)
        obtain ⟨rb, hrb, rfl⟩ := List.mem_map.mp hv
        rw [List.mem_filter] at hrb
        obtain ⟨i, hi, h5, h6⟩ := hI.mem hrb.1
        have hb0 := h6.base0 hrb.2
        have hl5 := rsAt_pen P4 K5 hl4
        have hfl : ∀ k ∈ rs, k.fields.length ≤ 1000 := fun k hk => by
          obtain ⟨_, _, _, z⟩ := hI.mem hk
          have := z.l; omega
        refine (en_all (K := K) (ev_var rfl) (ev_var rfl) hl5 z100 (kfind_self nd hrb.1) (fun b z => by rw [hb0] at z; cases z) hfl : EvN _ _ H5 _) H5 (Ex.refl H5) _ fun q H6 hq X6 h6 => ?_
        rw [gath_base hb0] at h6
        exact ⟨some rb.name, q, rb.fields, rfl, h6, Kp.trans K3 (Kp.trans (Kp.of X4) (Kp.trans K5 (Kp.of X6))), P5.mono X6, fun _ => ⟨rb, hrb.1, rfl, hrb.2, hb0, rfl⟩, fun z => absurd ex z⟩
      · have ex : x ≠ "heir" := of_decide_eq_false q
        exact ⟨none, hb, [], rfl, ⟨hb, [], rfl, X4 _ _ h3, .nil⟩, Kp.trans K3 (Kp.of X4), (P3.mono X4).le (by omega), fun z => absurd z ex, fun _ => ⟨rfl, rfl⟩⟩
    · rintro σ' H4 ⟨ob, hb', fs, rfl, hfs, K4, P4, hh, nh⟩
      have lfs : fs.length ≤ 4 := by
        by_cases e : x = "heir"
        · obtain ⟨rb, hrb, h1, h2, h3, h4⟩ := hh e
          obtain ⟨i, hi, h5, h6⟩ := hI.mem hrb
          rw [h4]; exact h6.l
        · rw [(nh e).2]; exact Nat.zero_le _
      refine q_asg (v := .bl (decide (x = "keyed") || decide (x = "registered"))) (ev_is (ev_opL (xs := [.str "keyed", .str "registered"]) (ev_var rfl) (el_lst (ea_cons ev_c (ea_cons ev_c ea_nil)) (Nat.le_of_ble_eq_true rfl)) fun q H2 h2 X2 => rv_inL (K := K) (neg := false) (sq_of h2) rfl rfl) (by
        show V.bl (inV (.str x) ((["keyed", "registered"] : List Str).map V.str)) = _
        rw [inV_strs]; simp)) fun H5 X5 => ?_
      have hlf0 : (decide (x = "keyed") || decide (x = "registered")) = true → x = "keyed" ∨ x = "registered" := fun z => by simpa using z
      have hlf1 : (decide (x = "keyed") || decide (x = "registered")) = false → x ≠ "keyed" ∧ x ≠ "registered" := fun z => by simpa using z
      revert hlf0 hlf1
      generalize (decide (x = "keyed") || decide (x = "registered")) = leaf
      intro hlf0 hlf1
      have lfh : leaf = true → x ≠ "heir" := fun z e => by
        subst e
        rcases hlf0 z with q | q <;> exact absurd q (by decide +kernel)
      refine q_asg ev_c fun H6 X6 => ?_
      refine q_cut (M := fun σ' H' => ∃ ls : Nat, σ' = [some (.ref p), some (.ref l), some (.ref ln), some (.ref lp), some (.str x), some (oV ob), some (.ref hb'), some (.bl leaf), some (.int (ls : Int)), none, none, none, none, none, none, none, none, none] ∧ Ex H6 H' ∧ ls ≤ 1 ∧ (leaf = true → ls = 1)) ?_ ?_
      · refine s_when (et_B (ev_var rfl)) (fun q H7 X7 => ?_) (fun q H7 X7 => ?_)
        · exact s_asg ev_c fun H8 X8 => ⟨1, rfl, X7.trans X8, Nat.le_refl _, fun _ => rfl⟩
        · exact ⟨0, rfl, X7, by decide, fun z => (by rw [q] at z; cases z)⟩
      · rintro σ' H7 ⟨ls, rfl, X7, ls1, hls⟩
        have X47 := X5.trans (X6.trans X7)
        have K7 : Kp p H H7 := Kp.trans K4 (Kp.of X47)
        have P7 := P4.mono X47
        have hS7 := hS.kp K7
        have hp14 := hS.p1
        have hfs7 := hfs.mono ftAt_mono X47
        refine q_any (takeN (n := (pool.length : Int)) rfl (len_map (K := K) (ev_var rfl) hS7.hp) P7 (by omega) (by omega) (by omega) fun H8 d K8 P8 d0 d1 => ?_)
        have hS8 := hS7.kp K8
        have hfs8 : LAt (FtAt K) fs (.ref hb') H8 := lat_pen P7 K8 (fun _ _ z => ftAt_pen P7 K8 z) hfs7
        have emn : (fs.map fun f => V.str f.name) = (fs.map Fd.name).map V.str := by rw [List.map_map]; rfl
        refine q_asgL (xs := ((rot pool d.toNat).filter fun y => !decide (y ∈ fs.map Fd.name)).map V.str) (el_seqL (K := K) (el_rot (K := K) (a := 3) (s := 9) rfl rfl hS8.hp d0 d1 (by omega)) fun q H9 hq X9 h9 => el_fltSL (K := K) (g := fun y => !decide (y ∈ fs.map Fd.name)) ev_c (sq_of h9) (by rw [rot_len]; omega) (by show 16 < 18; decide) (fun _ => rfl) fun y H10 X10 hy => et_is (et_test (ev_opL (xs := fs.map fun f => V.str f.name) (ev_var rfl) (el_mapL (K := K) (α := Fd) (P := FtAt K) (S := fs) (w := fun f => V.str f.name) ftAt_mono (ev_var rfl) (hfs8.mono ftAt_mono (X9.trans X10)) (by omega) (fun _ => rfl) fun v f H11 X11 hf hv => ev_f0 (ev_var rfl) hv) fun q2 H11 h11 X11 => rv_inL (K := K) (neg := true) (sq_of h11) rfl (by rw [emn]; exact Way.flat_strs _))) (by show (!inV (.str y) (fs.map fun f => V.str f.name)) = _; rw [emn, inV_strs])) fun fr H10 hfr X10 h10 => ?_
        have hfree := flt_len2 (ns := fs.map Fd.name) (rot_nod (i := d.toNat) hS.nd)
        have hfn : ∀ y ∈ (rot pool d.toNat).filter (fun y => !decide (y ∈ fs.map Fd.name)), fnS y = true ∧ y ∉ fs.map Fd.name := fun y hy => by
          rw [List.mem_filter] at hy
          exact ⟨hS.fn y (rot_mem.mp hy.1), by simpa using hy.2⟩
        have hfd := (rot_nod (i := d.toNat) hS.nd).filter (fun y => !decide (y ∈ fs.map Fd.name))
        rw [rot_len, List.length_map] at hfree
        revert h10 hfree hfn hfd
        generalize (rot pool d.toNat).filter (fun y => !decide (y ∈ fs.map Fd.name)) = free
        intro h10 hfree hfn hfd
        have P10 := P8.mono X10
        have K10 : Kp p H H10 := Kp.trans K7 (Kp.trans K8 (Kp.of X10))
        have nfr : fr ≠ p := P8.ne hfr
        have hfs10 := hfs8.mono ftAt_mono X10
        have hS10 := hS8.mono X10
        refine q_asgL (el_lst ea_nil (Nat.zero_le _)) fun lo H11 hlo X11 h11 => ?_
        have nlo : lo ≠ p := P10.ne hlo
        refine for_seq ?_
        refine ⟨_, rfl, takeN (n := 5 - (ls : Int)) rfl (ev_op ev_c (ev_var rfl) rv_I0) (P10.mono X11) (by omega) (by omega) (by omega) fun H12 e K12 P12 e0 e1 => ⟨_, _, rfl, rfl, ?_⟩⟩
        obtain ⟨n, hn, hn4, hnl⟩ : ∃ n : Nat, (ls : Int) + e = (n : Int) ∧ n ≤ 4 ∧ (leaf = true → 0 < n) := ⟨((ls : Int) + e).toNat, by omega, by omega, fun z => by have := hls z; omega⟩
        refine q_forR1 (n := (ls : Int) + e) ea_giv (by omega) (fun i σ' H' => ∃ (xs : List V) (os : List Fd) (v12 : Option V), σ' = [some (.ref p), some (.ref l), some (.ref ln), some (.ref lp), some (.str x), some (oV ob), some (.ref hb'), some (.bl leaf), some (.int (ls : Int)), some (.int d), some (.ref fr), some (.ref lo), v12, none, none, none, none, none] ∧ Kp p H10 H' ∧ Pen H' p c (k + 5 + 6 * i) ∧ H' lo = some (.lst xs) ∧ Paired (fun x f => FtAt K f x H') xs os ∧ os.map Fd.name = free.take i ∧ ∀ f ∈ os, (FGood f ∧ ∀ t, f.tgt = some t → t = "any" ∨ t ∈ names) ∧ (leaf = true → f.mode = "mark"))
          (fun H13 X13 => ⟨[], [], none, rfl, Kp.trans (Kp.of X11) (Kp.trans K12 (Kp.of X13)), (P12.mono X13).le (by omega), X13 _ _ (K12 _ _ nlo h11), .nil, rfl, fun f z => by cases z⟩) ?_ ?_
        · rintro i σ' H13 hi ⟨xs, os, v12, rfl, K13, P13, h13, hx13, hon, hos⟩
          have hi' : i < n := by omega
          have hif : i < free.length := by omega
          have los : os.length = i := by
            have := congrArg List.length hon
            rw [List.length_map, List.length_take] at this
            omega
          have lxs : xs.length = i := (Paired.length hx13).trans los
          have hfr13 := K13 _ _ nfr h10
          have hS13 := hS10.kp K13
          have hfi : free[i]? = some free[i] := List.getElem?_eq_getElem hif
          have ffn := hfn _ (List.getElem_mem hif)
          refine ⟨_, rfl, Or.inl ⟨rfl, _, sq_of h13⟩, ⟨_, rfl, (ev_op (ev_var rfl) (ev_var rfl) (rv_ixL (K := K) (sq_of hfr13) (at_of (j := i) (by omega) (by rw [List.getElem?_map, hfi]; rfl))) : Ev _ _ H13 (.str free[i])) H13 (Ex.refl H13) _ fun H14 X14 => ⟨_, rfl, _, rfl, _, rfl, p, c, ln, lp, k + 5 + 6 * i, free[i], names, pool, leaf, rfl, P13.mono X14, by omega, hS13.mono X14, ffn.1, fun H15 v f K15 P15 hft hfg hfnm hfm hftt => ?_⟩⟩⟩
          have h15 := K15 _ _ nlo (X14 _ _ h13)
          refine ⟨lo, xs, v, rfl, rfl, h15, sz_lt (by omega), ?_⟩
          have K16 : Kp p H10 (upd H15 lo (.lst (xs ++ [v]))) := Kp.mut (Kp.trans K13 (Kp.trans (Kp.of X14) K15)) hlo
          have kk : Kp lo H15 (upd H15 lo (.lst (xs ++ [v]))) := Kp.set (Kp.refl _ _)
          have ft16 : ∀ {g : Fd} {y : V}, FtAt K g y H15 → FtAt K g y (upd H15 lo (.lst (xs ++ [v]))) := fun z => by
            obtain ⟨t, wt, e, z1, z2⟩ := z
            have KI : KpI K H15 (upd H15 lo (.lst (xs ++ [v]))) := kpi_lst h15 kk
            exact ⟨t, wt, e, KI.t _ _ z1, KI.t _ _ z2⟩
          refine ⟨xs ++ [v], os ++ [f], _, rfl, K16, (P15.upd nlo (fun z => ?_)).le (by omega), upd_same, pr_snoc (Paired.mapP hx13 fun _ _ z => ft16 (ftAt_pen (P13.mono X14) K15 (ftAt_mono _ _ _ _ X14 z))) (ft16 hft), ?_, fun g hg => ?_⟩
          · obtain ⟨cs, hcs⟩ := P10.cells
            rw [z, hcs] at hlo; cases hlo
          · rw [List.map_append, hon, List.take_add_one, hfi]
            show _ ++ [f.name] = _
            rw [hfnm]; rfl
          · rcases List.mem_append.mp hg with z | z
            · exact hos g z
            · rw [List.mem_singleton.mp z]
              exact ⟨⟨hfg, hftt⟩, hfm⟩
        · rintro σ' H13 ⟨xs, os, v12, rfl, K13, P13, h13, hx13, hon, hos⟩
          have en : ((ls : Int) + e).toNat = n := by omega
          rw [en] at P13 hon
          have los : os.length = n := by
            have := congrArg List.length hon
            rw [List.length_map, List.length_take] at this
            omega
          refine q_asg ev_c fun H14 X14 => ?_
          have lat14 : LAt (FtAt K) os (.ref lo) H14 := ⟨lo, xs, rfl, X14 _ _ h13, Paired.mapP hx13 fun _ _ z => ftAt_mono _ _ _ _ X14 z⟩
          have K14 := Kp.trans K13 (Kp.of X14)
          have P14 := P13.mono X14
          refine q_cut (M := fun σ' H' => ∃ (ok : Option Str), σ' = [some (.ref p), some (.ref l), some (.ref ln), some (.ref lp), some (.str x), some (oV ob), some (.ref hb'), some (.bl leaf), some (.int (ls : Int)), some (.int d), some (.ref fr), some (.ref lo), v12, some (oV ok), none, none, none, none] ∧ Kp p H10 H' ∧ Pen H' p c (k + 30) ∧ LAt (FtAt K) os (.ref lo) H' ∧ (leaf = false → ok = none) ∧ (leaf = true → ∃ f ∈ os, ok = some f.name)) ?_ ?_
          · refine s_when (et_B (ev_var rfl)) (fun q H15 X15 => ?_) (fun q H15 X15 => ?_)
            · refine oneA (K := K) (P := FtAt K) (S := os) rfl (ev_var rfl) (lat14.mono ftAt_mono X15) ftAt_mono (P14.mono X15) (by omega) (by have := hnl q; omega) (by omega) (fun H1 H2 i x a b z => ftAt_pen a b z) fun H16 v f hf hv K16 P16 => ?_
              have hv' := hv
              obtain ⟨t, wt, rfl, h1, _⟩ := hv
              refine ⟨t, _, _, _, rfl, rfl, h1, at_of (j := 0) rfl rfl, ?_⟩
              exact ⟨some f.name, rfl, Kp.trans K14 (Kp.trans (Kp.of X15) K16), P16.le (by omega), lat_pen (P14.mono X15) K16 (fun _ _ z => ftAt_pen (P14.mono X15) K16 z) (lat14.mono ftAt_mono X15), fun z => (by rw [q] at z; cases z), fun _ => ⟨f, hf, rfl⟩⟩
            · exact ⟨none, rfl, Kp.trans K14 (Kp.of X15), (P14.mono X15).le (by omega), lat14.mono ftAt_mono X15, fun _ => rfl, fun z => (by rw [q] at z; cases z)⟩
          · rintro σ' H15 ⟨ok, rfl, K15, P15, lat15, ok0, ok1⟩
            have hfs15 : LAt (FtAt K) fs (.ref hb') H15 := lat_pen P10 K15 (fun _ _ z => ftAt_pen P10 K15 z) hfs10
            refine q_asg (ev_op (ev_lenFltN (K := K) (α := Fd) (g := fun f => !decide (f.mode = "mark")) ftAt_mono (en_catV ftAt_mono (ev_var rfl) (ev_var rfl) hfs15 lat15 (by omega)) (by rw [List.length_append]; omega) (by show 17 < 18; decide) (fun _ => rfl) fun v f H16 X16 hf hv => et_is (et_test (ev_op (ev_f1 (ev_var rfl) hv) ev_c (rv_ne rfl))) (by simp)) ev_c (rv_eq rfl)) fun H16 X16 => ?_
            have hma : decide (V.int (((fs ++ os).filter fun f : Fd => !decide (f.mode = "mark")).length : Int) = V.int 0) = true → ∀ f ∈ fs ++ os, f.mode = "mark" := fun z f hf => by
              apply Classical.byContradiction
              intro ne
              have h1 := of_decide_eq_true z
              have h2 := V.int.inj h1
              have := List.length_pos_of_mem (List.mem_filter (p := fun f : Fd => !decide (f.mode = "mark")) |>.mpr ⟨hf, (by simpa using ne : (!decide (f.mode = "mark")) = true)⟩)
              omega
            revert hma
            generalize decide (V.int (((fs ++ os).filter fun f : Fd => !decide (f.mode = "mark")).length : Int) = V.int 0) = ma
            intro hma
            have K16 := Kp.trans K15 (Kp.of X16)
            have P16 := P15.mono X16
            have lat16 := lat15.mono ftAt_mono X16
            have hfs16 := hfs15.mono ftAt_mono X16
            refine q_cut (M := fun σ' H' => ∃ (ok : Option Str), σ' = [some (.ref p), some (.ref l), some (.ref ln), some (.ref lp), some (.str x), some (oV ob), some (.ref hb'), some (.bl leaf), some (.int (ls : Int)), some (.int d), some (.ref fr), some (.ref lo), v12, some (oV ok), some (.bl ma), none, none, none] ∧ Kp p H10 H' ∧ Pen H' p c (k + 35) ∧ LAt (FtAt K) os (.ref lo) H' ∧ (∀ y, ok = some y → (∀ f ∈ fs ++ os, f.mode = "mark") ∧ y ∈ (fs ++ os).map Fd.name) ∧ (x ≠ "heir" → x ≠ "keyed" → x ≠ "registered" → ok = none) ∧ (x = "registered" → ok ≠ none)) ?_ ?_
            · have hk1 : ∀ y, ok = some y → (∀ f ∈ fs ++ os, f.mode = "mark") ∧ y ∈ (fs ++ os).map Fd.name := fun y hy => by
                cases hlf : leaf with
                | false => rw [ok0 hlf] at hy; cases hy
                | true =>
                  obtain ⟨f, hf, e⟩ := ok1 hlf
                  rw [e] at hy
                  cases hy
                  rw [(nh (lfh hlf)).2, List.nil_append]
                  exact ⟨fun g hg => (hos g hg).2 hlf, List.mem_map_of_mem hf⟩
              have hk0 : x ≠ "heir" → x ≠ "keyed" → x ≠ "registered" → ok = none := fun _ a b => ok0 (by
                cases hlf : leaf with
                | false => rfl
                | true => rcases hlf0 hlf with z | z
                          · exact absurd z a
                          · exact absurd z b)
              have hk2 : x = "registered" → ok ≠ none := fun z => by
                have : leaf = true := by
                  cases hlf : leaf with
                  | true => rfl
                  | false => exact absurd z (hlf1 hlf).2
                obtain ⟨f, _, e⟩ := ok1 this
                rw [e]; exact fun q => by cases q
              refine tt_and (a := decide (x = "heir")) (et_is (et_test (ev_op (ev_var rfl) ev_c (rv_eq rfl))) (by simp)) (fun qa H17 X17 => ?_) (fun qa H17 X17 => ?_)
              rotate_left
              · exact ite_b (fun z => nomatch z) fun _ => ⟨ok, rfl, Kp.trans K16 (Kp.of X17), (P16.mono X17).le (by omega), lat16.mono ftAt_mono X17, hk1, hk0, hk2⟩
              have ex : x = "heir" := of_decide_eq_true qa
              refine tt_and (a := ma) (et_B (ev_var rfl)) (fun qb H18 X18 => ?_) (fun qb H18 X18 => ?_)
              rotate_left
              · exact ite_b (fun z => nomatch z) fun _ => ⟨ok, rfl, Kp.trans K16 (Kp.of (X17.trans X18)), (P16.mono (X17.trans X18)).le (by omega), lat16.mono ftAt_mono (X17.trans X18), hk1, hk0, hk2⟩
              have X178 := X17.trans X18
              refine tt_and (a := decide ((0 : Int) < ((fs ++ os).length : Int))) (et_test (ev_op (ev_lenLN (K := K) (en_catV ftAt_mono (ev_var rfl) (ev_var rfl) (hfs16.mono ftAt_mono X178) (lat16.mono ftAt_mono X178) (by omega))) ev_c rv_I0)) (fun qc H19 X19 => ?_) (fun qc H19 X19 => ?_)
              rotate_left
              · exact ite_b (fun z => nomatch z) fun _ => ⟨ok, rfl, Kp.trans K16 (Kp.of (X178.trans X19)), (P16.mono (X178.trans X19)).le (by omega), lat16.mono ftAt_mono (X178.trans X19), hk1, hk0, hk2⟩
              have X179 := X178.trans X19
              have P19 := P16.mono X179
              refine takeN (n := 2) rfl ev_c P19 (by omega) (by decide) (by decide) fun H20 u K20 P20 _ _ => ⟨rfl, _, rfl, ?_⟩
              have lat20 : LAt (FtAt K) os (.ref lo) H20 := lat_pen P19 K20 (fun _ _ z => ftAt_pen P19 K20 z) (lat16.mono ftAt_mono X179)
              have hfs20 : LAt (FtAt K) fs (.ref hb') H20 := lat_pen P19 K20 (fun _ _ z => ftAt_pen P19 K20 z) (hfs16.mono ftAt_mono X179)
              have K20' : Kp p H10 H20 := Kp.trans K16 (Kp.trans (Kp.of X179) K20)
              refine ite_b (fun _ => ?_) fun _ => ⟨ok, rfl, K20', P20.le (by omega), lat20, hk1, hk0, hk2⟩
              have hlen : 0 < (fs ++ os).length := by have := of_decide_eq_true qc; omega
              refine oneN (K := K) (P := FtAt K) (S := fs ++ os) rfl (en_catV ftAt_mono (ev_var rfl) (ev_var rfl) hfs20 lat20 (by omega)) P20 (by omega) hlen (by rw [List.length_append]; omega) (fun H1 H2 i x a b z => ftAt_pen a b z) fun H21 v f hf hv K21 P21 => ?_
              obtain ⟨t, wt, rfl, h1, _⟩ := hv
              refine ⟨t, _, _, _, rfl, rfl, h1, at_of (j := 0) rfl rfl, ?_⟩
              exact ⟨some f.name, rfl, Kp.trans K20' K21, P21.le (by omega), lat_pen P20 K21 (fun _ _ z => ftAt_pen P20 K21 z) lat20, fun y hy => by cases hy; exact ⟨hma qb, List.mem_map_of_mem hf⟩, fun z => absurd ex z, fun _ z => by cases z⟩
            · rintro σ' H17 ⟨ok', rfl, K17, P17, lat17, hk1, hk0, hk2⟩
              have hS17 := hS10.kp K17
              have hl17 := rsAt_pen hP (Kp.trans K10 K17) hl
              intro a ha
              have X18 : Ex H17 (upd H17 a (.dK [])) := Ex.new ha
              have hnm : names[rs.length]? = some names[rs.length] := List.getElem?_eq_getElem hlt
              refine (ev_op (ev_var rfl) (ev_lenLA (K := K) (ev_var rfl) (hl17.mono rowAt_mono X18)) (rv_ixL (K := K) (sq_of (X18 _ _ hS17.hn)) (at_of (j := rs.length) rfl (by rw [List.getElem?_map, hnm]; rfl))) : Ev _ _ _ (.str names[rs.length])) _ (Ex.refl _) _ fun H19 X19 => ?_
              refine ⟨_, rfl, ?_⟩
              refine ⟨_, rfl, rfl, ?_⟩
              refine ⟨_, rfl, rfl, ?_⟩
              refine ⟨_, rfl, ?_⟩
              refine ⟨_, rfl, rfl, ?_⟩
              refine ⟨_, rfl, ?_⟩
              have hnr : NR names rs ⟨names[rs.length], os, ob, decide (x = "frozen"), decide (x = "open"), ok', decide (x = "registered")⟩ := nr_of hI hnd hx hnm hh nh hfd (fun y hy => (hfn y hy).2) hon hn4 (fun f hf => (hos f hf).1) hk1 hk0 hk2
              obtain ⟨lo', xs', e', h17, hx17⟩ := lat17
              cases e'
              have hnp := P17.ne ha
              have hfree0 : H a = none := Kp.free (Kp.trans K10 K17) hnp ha
              have K18 : Kp p H (upd H17 a (.dK [])) := Kp.mut (Kp.trans K10 K17) hfree0
              have elit : ∀ y : Str, decide (V.str x = V.str y) = decide (x = y) := fun y => by simp
              refine ⟨X19 _ _ upd_same, rowK (.str names[rs.length]) (oV ob) (.bl (decide (x = "frozen"))) (.bl (decide (x = "open"))) (oV ok') (.bl (decide (x = "registered"))) (.ref lo), by rw [← elit, ← elit, ← elit]; rfl, by show 7 ≤ 15; decide, ?_⟩
              rw [rk_made]
              have nla : lo ≠ a := fun z => by rw [z, ha] at h17; cases h17
              have KI : KpI K H19 (upd H19 a (.dK (kdK ⟨names[rs.length], os, ob, decide (x = "frozen"), decide (x = "open"), ok', decide (x = "registered")⟩ lo))) := kpi_dK (X19 _ _ upd_same) (Kp.set (Kp.refl _ _))
              refine kont _ a _ hfree0 (Kp.mut (Kp.trans K18 (Kp.of X19)) hfree0) (((P17.mono (X18.trans X19)).upd hnp (P17.neC ha)).le (by omega)) ⟨a, lo, xs', rfl, upd_same, (upd_ne nla).trans ((X18.trans X19) _ _ h17), Paired.mapP hx17 fun _ _ z => ?_⟩ (fun r' o ho => ?_) hnr
              rotate_left
              · rw [upd_same] at ho
                have e1 := HO.dK.inj (Option.some.inj ho)
                have h2 : valV (kdK r' o) (.inr "own") = some (.ref o) := rk_own
                rw [← e1, rk_own] at h2
                rw [← V.ref.inj (Option.some.inj h2)]
                exact Kp.free K10 nlo hlo
              obtain ⟨t, wt, e, z1, z2⟩ := z
              exact ⟨t, wt, e, KI.t _ _ (ex_t (X18.trans X19) z1), KI.t _ _ (ex_t (X18.trans X19) z2)⟩
end
end K03

namespace K03
open PySem L2 Way Evl
/-! names that are apart -/
theorem any_mem {xs : List Str} {k : Str} : xs.any (· == k) = true ↔ k ∈ xs := by
  rw [List.any_eq_true]
  constructor
  · rintro ⟨x, hx, e⟩
    have := eq_of_beq e
    subst this
    exact hx
  · intro h
    exact ⟨k, h, beq_self_eq_true k⟩
theorem dn_full {xs : List Str} : ∀ {n : Nat}, dn xs n = n → ∀ i, i < n → xs.getD i Str.empty ∉ xs.take i
  | 0, _, i, h => absurd h (Nat.not_lt_zero i)
  | n + 1, e, i, h => by
    have hl := dn_le xs n
    unfold dn at e
    split at e
    · omega
    · rename_i q
      have e' : dn xs n = n := by omega
      rcases Nat.lt_or_ge i n with z | z
      · exact dn_full e' i z
      · have : i = n := by omega
        subst this
        intro m
        exact q (any_mem.mpr m)
theorem full_dn {xs : List Str} : ∀ {n : Nat}, (∀ i, i < n → xs.getD i Str.empty ∉ xs.take i) → dn xs n = n
  | 0, _ => rfl
  | n + 1, h => by
    unfold dn
    have := full_dn (n := n) fun i hi => h i (by omega)
    split
    · rename_i q
      exact absurd (any_mem.mp q) (h n (by omega))
    · omega
theorem cnt_le {xs : List Str} (h : ∀ i, i < xs.length → xs.getD i Str.empty ∉ xs.take i) (x : Str) : ∀ n, n ≤ xs.length → (xs.take n).count x ≤ 1
  | 0, _ => by simp
  | n + 1, hn => by
    have ih := cnt_le h x n (by omega)
    have e1 : xs.take (n + 1) = xs.take n ++ [xs[n]] := by rw [List.take_add_one, List.getElem?_eq_getElem (by omega)]; rfl
    have e2 : xs.getD n Str.empty = xs[n] := by rw [List.getD_eq_getElem?_getD, List.getElem?_eq_getElem (by omega)]; rfl
    have hm := h n (by omega)
    rw [e2] at hm
    rw [e1, List.count_append]
    by_cases e : xs[n] = x
    · subst e
      rw [List.count_eq_zero.mpr hm]
      simp
    · have : [xs[n]].count x = 0 := List.count_eq_zero.mpr fun m => e (List.mem_singleton.mp m).symm
      omega
theorem nod_cnt (ns : List Str) : nodS ns = !decide ((0 : Int) < ((ns.filter fun x => decide ((1 : Int) < ((ns.count x : Nat) : Int))).length : Int)) := by
  unfold nodS
  by_cases h : ∀ i, i < ns.length → ns.getD i Str.empty ∉ ns.take i
  · rw [decide_eq_true (by rw [full_dn h])]
    have : (ns.filter fun x => decide ((1 : Int) < ((ns.count x : Nat) : Int))) = [] := by
      rw [List.filter_eq_nil_iff]
      intro x hx
      have := cnt_le h x ns.length (Nat.le_refl _)
      rw [List.take_length] at this
      simp
      omega
    rw [this]; rfl
  · have h' : ∃ i, i < ns.length ∧ ns.getD i Str.empty ∈ ns.take i := by
      apply Classical.byContradiction
      intro q
      exact h fun i hi hm => q ⟨i, hi, hm⟩
    obtain ⟨i, hi, hm⟩ := h'
    rw [decide_eq_false (fun e => dn_full (by omega : dn ns ns.length = ns.length) i hi hm)]
    have e2 : ns.getD i Str.empty = ns[i] := by rw [List.getD_eq_getElem?_getD, List.getElem?_eq_getElem hi]; rfl
    rw [e2] at hm
    have hc : 1 < ns.count ns[i] := by
      have e : ns = ns.take i ++ ns[i] :: ns.drop (i + 1) := by rw [← List.drop_eq_getElem_cons hi, List.take_append_drop]
      have e3 : ns.count ns[i] = (ns.take i).count ns[i] + (ns[i] :: ns.drop (i + 1)).count ns[i] := by
        rw [← List.count_append, ← e]
      rw [e3, List.count_cons_self]
      have := List.count_pos_iff.mpr hm
      omega
    have : ns[i] ∈ ns.filter fun x => decide ((1 : Int) < ((ns.count x : Nat) : Int)) := List.mem_filter.mpr ⟨List.getElem_mem hi, decide_eq_true (by omega)⟩
    have := List.length_pos_of_mem this
    rw [decide_eq_true (by omega)]; rfl
theorem nod_nodS {ns : List Str} (h : ns.Nodup) : nodS ns = true := by
  unfold nodS
  refine decide_eq_true ?_
  rw [full_dn fun i hi hm => ?_]
  have e2 : ns.getD i Str.empty = ns[i] := by rw [List.getD_eq_getElem?_getD, List.getElem?_eq_getElem hi]; rfl
  rw [e2] at hm
  have e : ns = ns.take i ++ ns[i] :: ns.drop (i + 1) := by rw [← List.drop_eq_getElem_cons hi, List.take_append_drop]
  rw [e, List.nodup_append] at h
  exact h.2.2 _ hm _ (List.mem_cons_self ..) rfl
/-! frozen or not: what does not hang on it -/
def thaw (r : Kd) : Kd := { r with frozen := false }
section
variable {rs rs' : List Kd} {n m t : Str} {k : Kd}
theorem nms_thaw : nms (rs.map thaw) = nms rs := by unfold nms; rw [List.map_map]; rfl
theorem kfind_thaw : kfind (rs.map thaw) n = (kfind rs n).map thaw := by unfold kfind; rw [List.find?_map]; rfl
theorem gath_thaw : gath (rs.map thaw) k = gath rs k := by
  unfold gath baseFs
  cases k.base with
  | none => rfl
  | some b =>
    simp only [kfind_thaw]
    cases kfind rs b <;> rfl
theorem adm_thaw : admK (rs.map thaw) t = admK rs t := by
  unfold admK
  rw [nms_thaw]
  congr 1
  refine List.filter_congr fun n _ => ?_
  rw [kfind_thaw]
  cases kfind rs n <;> rfl
theorem step_thaw : stepK (rs.map thaw) n m = stepK rs n m := by
  unfold stepK
  rw [kfind_thaw]
  cases kfind rs n with
  | none => rfl
  | some k =>
    simp only [Option.map_some]
    rw [gath_thaw]
    show (gath rs k).any _ = _
    refine congrArg (gath rs k).any (funext fun f => ?_)
    cases f.tgt with
    | none => rfl
    | some t => simp only [adm_thaw]
theorem far_thaw : Far (rs.map thaw) n m ↔ Far rs n m := by
  constructor
  · intro h
    induction h with
    | one h => exact .one (by rw [← step_thaw]; exact h)
    | more _ q ih => exact .more ih (by rw [← step_thaw]; exact q)
  · intro h
    induction h with
    | one h => exact .one (by rw [step_thaw]; exact h)
    | more _ q ih => exact .more ih (by rw [step_thaw]; exact q)
theorem farK_thaw : farK (rs.map thaw) n = farK rs n := by
  unfold farK
  rw [nms_thaw]
  exact List.filter_congr fun m _ => decide_eq_decide.mpr far_thaw
theorem wrong_thaw : wrongK (rs.map thaw) n = wrongK rs n := by
  unfold wrongK
  rw [farK_thaw]
  refine congrArg _ (funext fun m => ?_)
  rw [kfind_thaw]
  cases kfind rs m <;> rfl
theorem wrong_same (h : rs'.map thaw = rs.map thaw) : wrongK rs' n = wrongK rs n := by rw [← wrong_thaw (rs := rs'), h, wrong_thaw]
theorem gath_same (h : rs'.map thaw = rs.map thaw) : gath rs' k = gath rs k := by rw [← gath_thaw (rs := rs'), h, gath_thaw]
theorem nms_same (h : rs'.map thaw = rs.map thaw) : nms rs' = nms rs := by rw [← nms_thaw (rs := rs'), h, nms_thaw]
/-- what is told of a wrong kind -/
theorem wrong_eq (nd : (nms rs).Nodup) : (decide (n ∈ farK rs n) || decide ((0 : Int) < ((rs.filter fun o => o.heirs && decide (o.name ∈ farK rs n)).length : Int))) = wrongK rs n := by
  rw [Bool.eq_iff_iff, Bool.or_eq_true, decide_eq_true_eq, decide_eq_true_eq]
  unfold wrongK
  rw [List.any_eq_true]
  constructor
  · rintro (h | h)
    · exact ⟨n, h, by simp⟩
    · have : ∃ o, o ∈ rs.filter fun o => o.heirs && decide (o.name ∈ farK rs n) := by
        cases e : rs.filter fun o => o.heirs && decide (o.name ∈ farK rs n) with
        | nil => rw [e] at h; exact absurd h (by decide)
        | cons o _ => exact ⟨o, List.mem_cons_self ..⟩
      obtain ⟨o, ho⟩ := this
      rw [List.mem_filter, Bool.and_eq_true, decide_eq_true_eq] at ho
      refine ⟨o.name, ho.2.2, ?_⟩
      rw [kfind_self nd ho.1]
      simp [ho.2.1]
  · rintro ⟨m, hm, h⟩
    rw [Bool.or_eq_true, decide_eq_true_eq] at h
    rcases h with rfl | h
    · exact .inl hm
    · cases e : kfind rs m with
      | none => rw [e] at h; cases h
      | some o =>
        rw [e] at h
        obtain ⟨h1, h2⟩ := kfind_some e
        have : o ∈ rs.filter fun o => o.heirs && decide (o.name ∈ farK rs n) := List.mem_filter.mpr ⟨h1, by rw [h2]; simp [hm]; exact h⟩
        have := List.length_pos_of_mem this
        exact .inr (by omega)
end
/-- thawed at some places -/
structure Th (rs rs' : List Kd) : Prop where
  m : rs'.map thaw = rs.map thaw
  z : ∀ (i : Nat) (r r' : Kd), rs[i]? = some r → rs'[i]? = some r' → r'.frozen = true → r.frozen = true
theorem Th.refl (rs : List Kd) : Th rs rs := ⟨rfl, fun i r r' h1 h2 q => by
  rw [h1] at h2
  cases h2
  exact q⟩
theorem Th.len {rs rs' : List Kd} (h : Th rs rs') : rs'.length = rs.length := by have := congrArg List.length h.m; simpa using this
theorem Th.at_ {rs rs' : List Kd} (h : Th rs rs') {i : Nat} {r' : Kd} (q : rs'[i]? = some r') : ∃ r, rs[i]? = some r ∧ thaw r' = thaw r := by
  have h1 : (rs'.map thaw)[i]? = some (thaw r') := by rw [List.getElem?_map, q]; rfl
  rw [h.m, List.getElem?_map] at h1
  cases e : rs[i]? with
  | none => rw [e] at h1; cases h1
  | some r => rw [e] at h1; exact ⟨r, rfl, (Option.some.inj h1).symm⟩
theorem set_same {α : Type} {l : List α} {i : Nat} {y : α} (h : l[i]? = some y) : l.set i y = l := by
  refine List.ext_getElem? fun j => ?_
  rw [List.getElem?_set]
  split
  · rename_i e
    subst e
    rw [if_pos (List.getElem?_eq_some_iff.mp h).1, h]
  · rfl
theorem Th.set {rs rs' : List Kd} (h : Th rs rs') {i : Nat} {r : Kd} (q : rs'[i]? = some r) : Th rs (rs'.set i (thaw r)) := by
  refine ⟨?_, fun j a b h1 h2 hz => ?_⟩
  · rw [List.map_set]
    have : (rs'.map thaw)[i]? = some (thaw (thaw r)) := by rw [List.getElem?_map, q]; rfl
    rw [set_same this]
    exact h.m
  · rw [List.getElem?_set] at h2
    split at h2
    · split at h2
      · cases h2; cases hz
      · cases h2
    · exact h.z j a b h1 h2 hz
theorem map_take_eq {rs rs' : List Kd} (h : rs'.map thaw = rs.map thaw) (i : Nat) : (rs'.take i).map thaw = (rs.take i).map thaw := by rw [List.map_take, List.map_take, h]
theorem NR.thaw {names : List Str} {rs rs' : List Kd} {r r' : Kd} (h : NR names rs r) (hm : rs'.map K03.thaw = rs.map K03.thaw) (hr : K03.thaw r' = K03.thaw r) (hz : r'.frozen = true → r.frozen = true) : NR names rs' r' := by
  have ll : rs'.length = rs.length := by have := congrArg List.length hm; simpa using this
  have en : r'.name = r.name := show (K03.thaw r').name = (K03.thaw r).name from congrArg Kd.name hr
  have ef : r'.fields = r.fields := show (K03.thaw r').fields = (K03.thaw r).fields from congrArg Kd.fields hr
  have eb : r'.base = r.base := show (K03.thaw r').base = (K03.thaw r).base from congrArg Kd.base hr
  have eh : r'.heirs = r.heirs := show (K03.thaw r').heirs = (K03.thaw r).heirs from congrArg Kd.heirs hr
  have ek : r'.key = r.key := show (K03.thaw r').key = (K03.thaw r).key from congrArg Kd.key hr
  have eg : r'.registered = r.registered := show (K03.thaw r').registered = (K03.thaw r).registered from congrArg Kd.registered hr
  have egath : gath rs' r' = gath rs r := by
    have : gath rs' r' = gath rs' r := by unfold gath baseFs; rw [eb, ef]
    rw [this, gath_same hm]
  have nf : r.frozen = false → r'.frozen = false := fun z => by
    cases q : r'.frozen with
    | false => rfl
    | true => rw [hz q] at z; cases z
  refine ⟨by rw [ll, en]; exact h.n, by rw [ef]; exact h.l, by rw [ef]; exact h.f, fun b hb => ?_, fun z => ?_, by rw [egath]; exact h.nd, by rw [egath, ek]; exact h.k, by rw [eg, ek]; exact h.g, fun z => ?_⟩
  · rw [eb] at hb
    obtain ⟨h1, h2, rb, h3, h4, h5⟩ := h.b b hb
    refine ⟨nf h1, by rw [eh]; exact h2, ?_⟩
    have : K03.thaw rb ∈ rs'.map K03.thaw := by rw [hm]; exact List.mem_map_of_mem h3
    obtain ⟨rb', h6, h7⟩ := List.mem_map.mp this
    exact ⟨rb', h6, (congrArg Kd.name h7).trans h4, (congrArg Kd.heirs h7).trans h5⟩
  · rw [eh] at z
    obtain ⟨h1, h2, h3⟩ := h.h z
    exact ⟨nf h1, by rw [ek]; exact h2, by rw [eb]; exact h3⟩
  · rw [ek]
    refine h.z ?_
    have : rs.length = 0 := by rw [← ll, z]; rfl
    exact List.length_eq_zero_iff.mp this
theorem Inv.thaw {names : List Str} {rs rs' : List Kd} (h : Inv names rs) (t : Th rs rs') : Inv names rs' := fun i r' hr' => by
  obtain ⟨r, hr, e⟩ := t.at_ hr'
  exact (h i r hr).thaw (map_take_eq t.m i) e (t.z i r r' hr hr')
theorem good_tgt {f : Fd} (h : FGood f) (hm : f.mode ≠ "mark") : ∃ t, f.tgt = some t := by
  unfold FGood at h
  cases e : f.tgt with
  | some t => exact ⟨t, rfl⟩
  | none =>
    rw [e] at h
    simp [fFR, fFM, oD, hm, fTG, fKN, fAny] at h
/-- the rows of a house, all drawn -/
structure AllR (names : List Str) (rs : List Kd) : Prop where
  i : Inv names rs
  l : rs.length = names.length
  nd : names.Nodup
  n1 : 1 ≤ names.length ∧ names.length ≤ 12
  kn : ∀ x ∈ names, knS x = true
theorem AllR.nms {names : List Str} {rs : List Kd} (h : AllR names rs) : nms rs = names := by rw [h.i.nms, h.l, List.take_length]
theorem AllR.thaw {names : List Str} {rs rs' : List Kd} (h : AllR names rs) (t : Th rs rs') : AllR names rs' := ⟨h.i.thaw t, t.len.trans h.l, h.nd, h.n1, h.kn⟩
theorem gath_take {rs : List Kd} {names : List Str} (h : Inv names rs) (nd : (nms rs).Nodup) {i : Nat} {r : Kd} (hr : rs[i]? = some r) : gath rs r = gath (rs.take i) r := by
  have e : rs = rs.take i ++ rs.drop i := (List.take_append_drop i rs).symm
  have nr := h i r hr
  have : ∀ b, r.base = some b → ∃ k', kfind (rs.take i) b = some k' := fun b hb => by
    obtain ⟨_, _, rb, h3, h4, _⟩ := nr.b b hb
    exact kfind_in (by rw [← h4]; exact List.mem_map_of_mem h3)
  have := gath_app (r := rs.drop i) this
  rw [List.take_append_drop] at this
  exact this
theorem AllR.ok {names : List Str} {rs : List Kd} (h : AllR names rs) : RsOk rs := by
  have en := h.nms
  have nd : (K03.nms rs).Nodup := by rw [en]; exact h.nd
  have hb : ∀ k ∈ rs, ∀ b, k.base = some b → ∃ rb, kfind rs b = some rb ∧ rb.heirs = true ∧ rb ∈ rs := fun k hk b e => by
    obtain ⟨i, hi, h1, h2⟩ := h.i.mem hk
    obtain ⟨_, _, rb, h3, h4, h5⟩ := h2.b b e
    have hm := List.mem_of_mem_take h3
    exact ⟨rb, by rw [← h4]; exact kfind_self nd hm, h5, hm⟩
  have own : ∀ k ∈ rs, ∀ f ∈ k.fields, FGood f ∧ ∀ t, f.tgt = some t → t = "any" ∨ t ∈ names := fun k hk f hf => by
    obtain ⟨i, hi, h1, h2⟩ := h.i.mem hk
    exact h2.f f hf
  refine ⟨⟨nd, by rw [h.l]; exact h.n1.2, fun k hk => ?_, fun k hk b e => ?_, fun k hk f hf => ?_⟩, fun k hk b e => ?_⟩
  · obtain ⟨i, hi, h1, h2⟩ := h.i.mem hk
    exact ⟨by have := h2.l; omega, h.kn _ (List.mem_of_getElem? h2.n), fun f hf hm => good_tgt (h2.f f hf).1 hm⟩
  · obtain ⟨rb, h1, _⟩ := hb k hk b e
    exact ⟨rb, h1⟩
  · have : ∃ k' ∈ rs, f ∈ k'.fields := by
      unfold gath at hf
      rcases List.mem_append.mp hf with z | z
      · unfold baseFs at z
        cases e : k.base with
        | none => rw [e] at z; cases z
        | some b =>
          obtain ⟨rb, h1, _, h3⟩ := hb k hk b e
          rw [e] at z
          simp only [h1] at z
          exact ⟨rb, h3, z⟩
      · exact ⟨k, hk, z⟩
    obtain ⟨k', hk', hf'⟩ := this
    unfold tgtOk
    cases e : f.tgt with
    | none => rfl
    | some t =>
      rcases (own k' hk' f hf').2 t e with q | q
      · simp [q]
      · rw [en]; simp [q]
  · obtain ⟨rb, h1, h2, h3⟩ := hb k hk b e
    obtain ⟨i, hi, h4, h5⟩ := h.i.mem h3
    exact ⟨rb, h1, (h5.h h2).2.2⟩
theorem AllR.fits {names : List Str} {rs : List Kd} (h : AllR names rs) {i : Nat} {r : Kd} (hr : rs[i]? = some r) : fitsK (rs.take i) (K03.nms rs) r = true := by
  have ok := h.ok.ok
  have nr := h.i i r hr
  have hrm := List.mem_of_getElem? hr
  have hi := (List.getElem?_eq_some_iff.mp hr).1
  have hb : ∀ b, r.base = some b → ∃ rb, kfind (rs.take i) b = some rb ∧ rb.heirs = true ∧ rb ∈ rs.take i := fun b e => by
    obtain ⟨_, _, rb, h3, h4, h5⟩ := nr.b b e
    have nd : (K03.nms (rs.take i)).Nodup := by
      unfold K03.nms; rw [List.map_take]; exact ok.nd.sublist (List.take_sublist _ _)
    exact ⟨rb, by rw [← h4]; exact kfind_self nd h3, h5, h3⟩
  simp only [fitsK, Bool.and_eq_true, Bool.not_eq_true', decide_eq_false_iff_not]
  refine ⟨fun z => ?_, ?_, ?_, ?_, ?_⟩
  · have e : rs = rs.take i ++ r :: rs.drop (i + 1) := by
      have : r = rs[i] := by have := List.getElem?_eq_getElem hi; rw [hr] at this; exact Option.some.inj this
      rw [this, ← List.drop_eq_getElem_cons hi, List.take_append_drop]
    have nd := ok.nd
    unfold K03.nms at nd
    rw [e, List.map_append, List.nodup_append] at nd
    exact nd.2.2 _ z _ (by rw [List.map_cons]; exact List.mem_cons_self ..) rfl
  · unfold baseOk
    cases e : r.base with
    | none => rfl
    | some b =>
      obtain ⟨rb, h1, h2, _⟩ := hb b e
      simp only [h1, h2]
  · have hl : (gath (rs.take i) r).length ≤ 10 := by
      unfold gath baseFs
      rw [List.length_append]
      have h4 := nr.l
      cases e : r.base with
      | none => simp; omega
      | some b =>
        obtain ⟨rb, h1, h2, h3⟩ := hb b e
        simp only [h1]
        obtain ⟨_, _, _, h5⟩ := h.i.mem (List.mem_of_mem_take h3)
        have := h5.l
        omega
    simp only [fAF, Bool.and_eq_true, List.length_map]
    refine ⟨decide_eq_true hl, List.all_eq_true.mpr fun e he => ?_, ?_⟩
    · obtain ⟨f, _, rfl⟩ := List.mem_map.mp he
      rfl
    · rw [List.map_map]
      exact nod_nodS nr.nd
  · refine List.all_eq_true.mpr fun f hf => ?_
    rw [← gath_take h.i ok.nd hr] at hf
    exact ok.t r hrm f hf
  · unfold keyOk
    cases e : r.key with
    | none => rfl
    | some y =>
      obtain ⟨h1, h2⟩ := nr.k y e
      simp only [Bool.and_eq_true, decide_eq_true_eq]
      exact ⟨List.all_eq_true.mpr fun f hf => decide_eq_true (h1 f hf), h2⟩
/-! rows that are changed in place -/
structure RwsAt (K : PySem.W.Frag) (rs : List Kd) (as : List Addr) (l : Addr) (H : Hp) : Prop where
  h : H l = some (.lst (as.map V.ref))
  nd : as.Nodup
  r : Paired (fun x r => RowAt K r x H) (as.map V.ref) rs
theorem RwsAt.rs {K : PySem.W.Frag} {rs : List Kd} {as : List Addr} {l : Addr} {H : Hp} (h : RwsAt K rs as l H) : RsAt K rs l H := ⟨l, _, rfl, h.h, h.r⟩
theorem RwsAt.len {K : PySem.W.Frag} {rs : List Kd} {as : List Addr} {l : Addr} {H : Hp} (h : RwsAt K rs as l H) : as.length = rs.length := by
  have := Paired.length h.r
  rwa [List.length_map] at this
theorem RwsAt.mono {K : PySem.W.Frag} {rs : List Kd} {as : List Addr} {l : Addr} {H H' : Hp} (e : Ex H H') (h : RwsAt K rs as l H) : RwsAt K rs as l H' := ⟨e _ _ h.h, h.nd, Paired.mapP h.r fun _ _ z => rowAt_mono _ _ _ _ e z⟩
theorem RwsAt.pen {K : PySem.W.Frag} {rs : List Kd} {as : List Addr} {l p c : Addr} {k : Nat} {H H' : Hp} (hP : Pen H p c k) (kp : Kp p H H') (h : RwsAt K rs as l H) : RwsAt K rs as l H' := by
  obtain ⟨kv, hk⟩ := hP.here
  exact ⟨kp _ _ (fun e => by have := h.h; rw [e, hk] at this; cases this) h.h, h.nd, Paired.mapP h.r fun _ _ z => rowAt_pen hP kp z⟩
theorem RwsAt.at_ {K : PySem.W.Frag} {rs : List Kd} {as : List Addr} {l : Addr} {H : Hp} (h : RwsAt K rs as l H) {i : Nat} {x : V} (hx : (as.map V.ref)[i]? = some x) : ∃ a r, x = .ref a ∧ as[i]? = some a ∧ rs[i]? = some r ∧ RowAt K r (.ref a) H := by
  rw [List.getElem?_map] at hx
  cases e : as[i]? with
  | none => rw [e] at hx; cases hx
  | some a =>
    rw [e] at hx
    cases hx
    obtain ⟨r, hr, hra⟩ := pr_at h.r (i := i) (x := .ref a) (by rw [List.getElem?_map, e]; rfl)
    exact ⟨a, r, rfl, rfl, hr, hra⟩
theorem rowAt_off {K : PySem.W.Frag} {H : Hp} {a b : Addr} {kv kv' : List (Key × V)} {r : Kd} (hb : H b = some (.dK kv)) (n : a ≠ b) (h : RowAt K r (.ref a) H) : RowAt K r (.ref a) (upd H b (.dK kv')) := by
  obtain ⟨a', o, xs, e, h1, h2, h3⟩ := h
  cases e
  have no : o ≠ b := fun z => by rw [z, hb] at h2; cases h2
  have KI : KpI K H (upd H b (.dK kv')) := kpi_dK hb (Kp.set (Kp.refl _ _))
  exact ⟨a, o, xs, rfl, (upd_ne n).trans h1, (upd_ne no).trans h2, Paired.mapP h3 fun _ _ ⟨t, wt, e, z1, z2⟩ => ⟨t, wt, e, KI.t _ _ z1, KI.t _ _ z2⟩⟩
theorem RwsAt.put {K : PySem.W.Frag} {rs : List Kd} {as : List Addr} {l a : Addr} {i : Nat} {r' : Kd} {kv kv' : List (Key × V)} {H : Hp} (h : RwsAt K rs as l H) (ha : as[i]? = some a) (hd : H a = some (.dK kv)) (hr : RowAt K r' (.ref a) (upd H a (.dK kv'))) : RwsAt K (rs.set i r') as l (upd H a (.dK kv')) := by
  have nl : l ≠ a := fun e => by have := h.h; rw [e, hd] at this; cases this
  refine ⟨(upd_ne nl).trans h.h, h.nd, pr_of (by rw [List.length_map, List.length_set]; exact h.len) fun j y s e1 e2 => ?_⟩
  obtain ⟨b, r, rfl, hb, hr0, hrow⟩ := h.at_ e1
  rw [List.getElem?_set] at e2
  split at e2
  · rename_i e
    subst e
    rw [ha] at hb
    cases hb
    split at e2
    · cases e2; exact hr
    · cases e2
  · rename_i e
    rw [hr0] at e2
    cases e2
    refine rowAt_off hd (fun z => e ?_) hrow
    subst z
    exact (List.getElem?_inj (List.getElem?_eq_some_iff.mp ha).1 h.nd).mp (ha.trans hb.symm)
/-- what house_rows draws -/
structure DHouse (names : List Str) (rs : List Kd) : Prop where
  a : AllR names rs
  w : ∀ r ∈ rs, r.frozen = true → wrongK rs r.name = false
def spHR (K : PySem.W.Frag) : Sp := fun vs H Q _ => ∃ (p c : Addr) (k m : Nat), vs = [.ref p, .int (m : Int)] ∧ Pen H p c k ∧ k ≤ 50000 ∧ 1 ≤ m ∧ m ≤ 12 ∧ ∀ H' l as rs names, H l = none → (∀ a ∈ as, H a = none) → Kp p H H' → Pen H' p c (k + 1000) → RwsAt K rs as l H' → DHouse names rs → rs.length ≤ m → Q (.ref l) H'
def spRoot (K : PySem.W.Frag) : Sp := fun vs H Q _ => ∃ (p c l : Addr) (k : Nat) (rs : List Kd), vs = [.ref p, .ref l] ∧ Pen H p c k ∧ k ≤ 60000 ∧ RsAt K rs l H ∧ rs.length ≤ 100 ∧ (∃ r ∈ rs, r.key = none) ∧ ∀ H' r, r ∈ rs → r.key = none → Kp p H H' → Pen H' p c (k + 1) → Q (.str r.name) H'
section
variable {P : Program} {w : World} {K : PySem.W.Frag} {mg : Str → Option Value} {base : Heap}
theorem ok_house_rows (T : Txt P K mg) : FnOk P w K mg base CX0 6 T.f_house_rows T.d_house_rows P_house_rows (spHR K) := by
  have G_kind_names := ok_kind_names (P := P) (w := w) (base := base) T
  have G_words := ok_words (P := P) (w := w) (base := base) T
  have G_leads_far := ok_leads_far (P := P) (w := w) (base := base) T
  have G_take := ok_take (P := P) (w := w) (base := base) T
  have G_new_row := ok_new_row (P := P) (w := w) (base := base) T
  refine T.F_house_rows.ok sc_house_rows (fun vs H Q E h => ?_) (fun cdv A outer s H vs Q E hr h => ?_)
  · obtain ⟨p, c, k, m, rfl, _⟩ := h
    rfl
  · obtain ⟨p, c, k, m, rfl, hP, hk, m1, m12, kont⟩ := h
    refine ⟨_, (pss_cons (ps_set (i := 2) sc_house_rows.nd rfl (Or.inl rfl) (pe_call G_kind_names (hr.mono (by decide)) (by rfl) T.g_kind_names T.F_kind_names.kp T.B_kind_names .nil pass0 (pa_cons (pv 0) (pa_cons (pe_op op_add pe_int (pe_call G_take (hr.mono (by decide)) (by rfl) T.g_take T.F_take.kp T.B_take .nil pass0 (pa_cons (pv 0) (pa_cons (pv 1) pa_nil)))) pa_nil))))
      (pss_cons (ps_set (i := 3) sc_house_rows.nd rfl (Or.inl rfl) (pe_call G_words (hr.mono (by decide)) (by rfl) T.g_words T.F_words.kp T.B_words .nil pass0 (pa_cons (pv 0) (pa_cons pe_int (pa_cons pe_int pa_nil)))))
      (pss_cons (ps_set (i := 4) sc_house_rows.nd rfl (Or.inl rfl) (pe_lst pa_nil))
      (pss_cons (ps_for PassesOwn.never rfl (pi_list (pv 2)) (pg_name (i := 5) sc_house_rows.nd rfl (Or.inl rfl)) (pss_one (ps_expr (pe_bm PySem.F.plainAttrs_list PySem.F.slot_list_append PySem.F.type_list_append mt_append (pv 4) (pa_cons (pe_call G_new_row hr (by rfl) T.g_new_row T.F_new_row.kp T.B_new_row .nil pass0 (pa_cons (pv 0) (pa_cons (pv 4) (pa_cons (pv 2) (pa_cons (pv 3) pa_nil))))) pa_nil)))))
      (pss_cons (ps_for PassesOwn.never rfl (pi_list (pv 4)) (pg_name (i := 6) sc_house_rows.nd rfl (Or.inl rfl)) (pss_cons (ps_set (i := 7) sc_house_rows.nd rfl (Or.inr rfl) (pe_call G_leads_far hr (by rfl) T.g_leads_far T.F_leads_far.kp T.B_leads_far .nil pass0 (pa_cons (pv 4) (pa_cons (pe_dget (hu_of hr) (pv 6) pe_str (fun _ _ => rfl)) pa_nil))))
      (pss_one (ps_if (PW.pt (pw_or (pt_cmpR op_in_seq (pe_dget (hu_of hr) (pv 6) pe_str (fun _ _ => rfl)) (pv 7) (by rfl)) (pw_or1 (pt_cmpR op_gt (pe_callB call_len_seq (by rfl) T.b_len (by decide +kernel) (pa_cons (pe_lc (own := [("_law_one", 8)]) (g := gName 8) (by rfl) sc_house_rows.nd (pi_list (pv 4)) (blkOk_by (own := [("_law_one", 8)]) (N := N_house_rows) (sc := defScope s_house_rows) (by decide +kernel)) (fun _ _ _ _ _ => (pg_name (i := 8) sc_house_rows.nd rfl (Or.inl rfl))) (fun _ _ _ _ _ => (pts_one (PW.pt (pw_and (pt_val (pe_dget (hu_of hr) (pv 8) pe_str (fun _ _ => rfl))) (pw_and1 (pt_cmpR (Way.kk_in (K := K)) (pe_dget (hu_of hr) (pv 8) pe_str (fun _ _ => rfl)) (pv 7) (by rfl))))))) (fun _ _ _ _ _ => (pv 8))) pa_nil)) pe_int (nomark _))))) (pss_one (ps_asg pe_bl (pg_sub (pv 6) pe_str (set_dict (hu_of hr))))) pss_nil))))
      (pss_one (ps_ret (pv 4)))))))), ?_⟩
    refine q_any ⟨_, rfl, takeN (n := (m : Int)) rfl (ev_var rfl) hP (by omega) (by omega) (by omega) fun H1 d K1 P1 d0 d1 => ⟨_, _, rfl, rfl, ?_⟩⟩
    obtain ⟨n, hn, hn1, hnm⟩ : ∃ n : Nat, (1 : Int) + d = (n : Int) ∧ 1 ≤ n ∧ n ≤ m := ⟨(1 + d).toNat, by omega, by omega, by omega⟩
    refine ⟨p, c, k + 1, n, by show [V.ref p, V.int (1 + d)] = _; rw [hn], P1, by omega, by omega, fun ln H2 names hln K2 P2 h2 hlen hkn hnd => ?_⟩
    refine q_any ⟨_, rfl, p, c, k + 1 + 3 + 9 * n, 14, rfl, P2, by omega, by decide, fun lp H3 pool hlp K3 P3 h3 hlen3 hfn hndp => ?_⟩
    have nln : ln ≠ p := P1.ne hln
    have nlp : lp ≠ p := P2.ne hlp
    have hS3 : Src H3 p ln lp names pool := ⟨K3 _ _ nln h2, nln, by omega, hkn, h3, nlp, hlen3, hndp, hfn⟩
    have Kz3 : Kp p H H3 := Kp.trans K1 (Kp.trans K2 K3)
    refine q_asgL (el_lst ea_nil (Nat.zero_le _)) fun l H4 hl X4 h4 => ?_
    have nl : l ≠ p := P3.ne hl
    have hl0 : H l = none := Kp.free Kz3 nl hl
    refine q_forLn (K := K) (ev_var rfl) (sq_of (X4 _ _ hS3.hn)) (fun i σ' H' => ∃ (rs : List Kd) (as : List Addr) (v5 : Option V), σ' = [some (.ref p), some (.int (m : Int)), some (.ref ln), some (.ref lp), some (.ref l), v5, none, none, none] ∧ Kp p H3 H' ∧ Pen H' p c (k + 300 + 40 * i) ∧ RwsAt K rs as l H' ∧ (∀ a ∈ as, H a = none) ∧ (∀ a ∈ as, ∀ r o, H' a = some (.dK (kdK r o)) → o ≠ l) ∧ Inv names rs ∧ rs.length = i)
      (fun H5 X5 => ⟨[], [], none, rfl, Kp.of (X4.trans X5), (P3.mono (X4.trans X5)).le (by omega), ⟨X5 _ _ h4, List.nodup_nil, .nil⟩, fun a z => (by cases z), fun a z => (by cases z), fun i r z => (by cases z), rfl⟩) (fun i σ' H' _ ⟨_, _, _, _, z, _⟩ => sq_of (z _ _ nln hS3.hn)) ?_ ?_
    · rintro i x σ' H5 hx ⟨rs, as, v5, rfl, K5, P5, hR, hf0, hol, hI, hli⟩
      obtain ⟨nm, hnm', rfl⟩ := at_str hx
      have hin : i < names.length := (List.getElem?_eq_some_iff.mp hnm').1
      have las := hR.len
      refine ⟨_, rfl, Or.inl ⟨rfl, _, sq_of hR.h⟩, ⟨_, rfl, _, rfl, _, rfl, _, rfl, p, c, l, ln, lp, k + 300 + 40 * i, rs, names, pool, rfl, P5, by omega, hR.rs, hS3.kp K5, hI, hnd, by omega, by omega, fun H6 a r ha K6 P6 hra hro hnr => ?_⟩⟩
      have hR6 := hR.pen P5 K6
      have na : a ≠ p := P5.ne ha
      have ha0 : H a = none := Kp.free Kz3 na (Kp.free K5 na ha)
      refine ⟨l, as.map V.ref, .ref a, rfl, rfl, hR6.h, sz_lt (by rw [List.length_map]; omega), ?_⟩
      have nla : l ≠ a := fun z => by have := hR.h; rw [z, ha] at this; cases this
      have hl5 : H5 l ≠ none := fun z => by have := hR.h; rw [z] at this; cases this
      have off : ∀ {b : Addr} {s : Kd}, RowAt K s (.ref b) H6 → (∀ r o, H6 b = some (.dK (kdK r o)) → o ≠ l) → RowAt K s (.ref b) (upd H6 l (.lst (as.map V.ref ++ [.ref a]))) := fun {b s} hb hz => by
        obtain ⟨a', o, xs, e, h1, h2, h3⟩ := hb
        cases e
        have no := hz _ _ h1
        have nb : b ≠ l := fun z => by rw [z, hR6.h] at h1; cases h1
        have KI : KpI K H6 (upd H6 l (.lst (as.map V.ref ++ [.ref a]))) := kpi_lst hR6.h (Kp.set (Kp.refl _ _))
        exact ⟨b, o, xs, rfl, (upd_ne nb).trans h1, (upd_ne no).trans h2, Paired.mapP h3 fun _ _ ⟨t, wt, e, z1, z2⟩ => ⟨t, wt, e, KI.t _ _ z1, KI.t _ _ z2⟩⟩
      have old : ∀ b ∈ as, ∀ r o, H6 b = some (.dK (kdK r o)) → o ≠ l := fun b hb r' o h => by
        obtain ⟨j, hj⟩ := List.getElem?_of_mem hb
        obtain ⟨b', s, e, _, _, hrow⟩ := hR.at_ (i := j) (x := .ref b) (by rw [List.getElem?_map, hj]; rfl)
        cases e
        obtain ⟨a', o', xs, e, h1, _⟩ := hrow
        cases e
        have h1' := K6 _ _ (row_ne P5 h1) h1
        rw [h] at h1'
        have e1 := HO.dK.inj (Option.some.inj h1')
        have h2 : valV (kdK r' o) (.inr "own") = some (.ref o) := rk_own
        rw [e1] at h2
        have h3 : valV (kdK s o') (.inr "own") = some (.ref o') := rk_own
        rw [h3] at h2
        rw [← V.ref.inj (Option.some.inj h2)]
        exact hol b hb _ _ h1
      have new : ∀ r' o, H6 a = some (.dK (kdK r' o)) → o ≠ l := fun r' o h z => hl5 (by rw [← z]; exact hro r' o h)
      refine ⟨rs ++ [r], as ++ [a], _, rfl, Kp.mut (Kp.trans K5 K6) hl, (P6.upd nl (fun z => ?_)).le (by omega), ⟨by rw [upd_same, List.map_append]; rfl, ?_, ?_⟩, fun b hb => ?_, fun b hb r' o h => ?_, hI.snoc hnr, by rw [List.length_append, hli]; rfl⟩
      · obtain ⟨cs, hcs⟩ := P3.cells
        rw [z, hcs] at hl; cases hl
      · rw [List.nodup_append]
        refine ⟨hR.nd, by simp, fun b hb b' hb' e => ?_⟩
        rw [List.mem_singleton.mp hb'] at e
        subst e
        obtain ⟨j, hj⟩ := List.getElem?_of_mem hb
        obtain ⟨b', s, e, _, _, hrow⟩ := hR.at_ (i := j) (x := .ref b) (by rw [List.getElem?_map, hj]; rfl)
        cases e
        obtain ⟨a', o', xs, e, h1, _⟩ := hrow
        cases e
        rw [ha] at h1; cases h1
      · rw [List.map_append]
        refine pr_append (pr_of (by rw [List.length_map]; exact hR6.len) fun j y s e1 e2 => ?_) (.cons (off hra new) .nil)
        obtain ⟨b, s', rfl, hb, hs', hrow⟩ := hR6.at_ e1
        rw [hs'] at e2
        cases e2
        exact off hrow (old b (List.mem_of_getElem? hb))
      · rcases List.mem_append.mp hb with z | z
        · exact hf0 b z
        · rw [List.mem_singleton.mp z]; exact ha0
      · have nb : b ≠ l := fun z => by rw [z, upd_same] at h; cases h
        rw [upd_ne nb] at h
        rcases List.mem_append.mp hb with z | z
        · exact old b z r' o h
        · rw [List.mem_singleton.mp z] at h
          exact new r' o h
    · rintro σ' H5 ⟨rs, as, v5, rfl, K5, P5, hR, hf0, hol, hI, hli⟩
      rw [List.length_map] at hli P5
      have hA : AllR names rs := ⟨hI, hli, hnd, by omega, hkn⟩
      have las := hR.len
      refine q_forLn (K := K) (ev_var rfl) (sq_of hR.h) (fun i σ' H' => ∃ (rs' : List Kd) (v6 v7 : Option V), σ' = [some (.ref p), some (.int (m : Int)), some (.ref ln), some (.ref lp), some (.ref l), v5, v6, v7, none] ∧ Kp p H H' ∧ Pen H' p c (k + 1000) ∧ RwsAt K rs' as l H' ∧ Th rs rs' ∧ ∀ j r, j < i → rs'[j]? = some r → r.frozen = true → wrongK rs r.name = false)
        (fun H6 X6 => ⟨rs, none, none, rfl, Kp.trans Kz3 (Kp.trans K5 (Kp.of X6)), (P5.mono X6).le (by omega), hR.mono X6, Th.refl rs, fun j r z => absurd z (Nat.not_lt_zero _)⟩) (fun i σ' H' _ ⟨_, _, _, _, _, _, z, _⟩ => sq_of z.h) ?_ ?_
      · rintro i x σ' H6 hx ⟨rs', v6, v7, rfl, K6, P6, hR6, hT, hw⟩
        obtain ⟨a, r, rfl, ha, hr', hrow⟩ := hR6.at_ hx
        have hA' := hA.thaw hT
        have hok := hA'.ok
        have hrm := List.mem_of_getElem? hr'
        have hil : i < rs'.length := (List.getElem?_eq_some_iff.mp hr').1
        have enm : (K03.nms rs').length = rs'.length := by unfold K03.nms; rw [List.length_map]
        have z12 := hok.ok.len
        refine q_asgL (el_ld (K := K) (f := farK) (ev_var rfl) (ev_name (ev_var rfl) hrow) hR6.rs hok (List.mem_map_of_mem hrm)) fun fo H7 hfo X7 h7 => ?_
        have hR7 := hR6.mono X7
        have hrow7 := rowAt_mono _ _ _ _ X7 hrow
        refine s_when (b := wrongK rs' r.name) ?_ (fun q H8 X8 => ?_) (fun q H8 X8 => ?_)
        · rw [← wrong_eq hok.ok.nd]
          refine et_or (et_is (et_test (ev_op (ev_name (ev_var rfl) hrow7) (ev_var rfl) (rv_inL (K := K) (neg := false) (sq_of h7) rfl (Way.flat_strs _)))) (by show inV (.str r.name) ((farK rs' r.name).map V.str) = _; rw [inV_strs])) fun _ => et_test (ev_op (ev_lenFlt (K := K) (α := Kd) (g := fun o : Kd => o.heirs && decide (o.name ∈ farK rs' r.name)) rowAt_mono (ev_var rfl) hR7.rs (by omega) (by show 8 < 9; decide) (fun _ => rfl) fun x o H8 X8 ho hx' => et_and (et_B (ev_heirs (ev_var rfl) hx')) fun _ => et_is (et_test (ev_op (ev_name (ev_var rfl) hx') (ev_var rfl) (rv_inL (K := K) (neg := false) (sq_of (X8 _ _ h7)) rfl (Way.flat_strs _)))) (by show inV (.str o.name) ((farK rs' r.name).map V.str) = _; rw [inV_strs])) ev_c rv_I0)
        · have hR8 := hR7.mono X8
          have P8 := P6.mono (X7.trans X8)
          obtain ⟨a', o, xs, e, d1, d2, d3⟩ := id (rowAt_mono _ _ _ _ X8 hrow7)
          cases e
          refine s_dput d1 ev_c (ev_var rfl) ev_c (by show 7 < 100000; decide) fun H9 X9 => ?_
          have e9 : putK (kdK r o) (.inr "frozen") (.bl false) = kdK (K03.thaw r) o := rp_frozen
          rw [e9]
          have hR9 := hR8.mono X9
          have na : a ≠ p := row_ne P8 d1
          have KI : KpI K H9 (upd H9 a (.dK (kdK (K03.thaw r) o))) := kpi_dK (X9 _ _ d1) (Kp.set (Kp.refl _ _))
          have noa : o ≠ a := fun z => by rw [z, d1] at d2; cases d2
          have hrow9 : RowAt K (K03.thaw r) (.ref a) (upd H9 a (.dK (kdK (K03.thaw r) o))) := ⟨a, o, xs, rfl, upd_same, (upd_ne noa).trans (X9 _ _ d2), Paired.mapP d3 fun _ _ ⟨t, wt, e, z1, z2⟩ => ⟨t, wt, e, KI.t _ _ (ex_t X9 z1), KI.t _ _ (ex_t X9 z2)⟩⟩
          refine ⟨rs'.set i (K03.thaw r), _, _, rfl, Kp.mut (Kp.trans K6 (Kp.of (X7.trans (X8.trans X9)))) (hf0 a (List.mem_of_getElem? ha)), (P8.mono X9).upd na (fun z => ?_), hR9.put ha (X9 _ _ d1) hrow9, hT.set hr', fun j r' hj hr2 hz => ?_⟩
          · obtain ⟨cs, hcs⟩ := P8.cells
            rw [z, hcs] at d1; cases d1
          · rw [List.getElem?_set] at hr2
            by_cases e : i = j
            · subst e
              rw [if_pos rfl, if_pos hil] at hr2
              cases hr2
              cases hz
            · rw [if_neg e] at hr2
              exact hw j r' (by omega) hr2 hz
        · refine ⟨rs', _, _, rfl, Kp.trans K6 (Kp.of (X7.trans X8)), P6.mono (X7.trans X8), hR7.mono X8, hT, fun j r' hj hr2 hz => ?_⟩
          by_cases e : j = i
          · subst e
            rw [hr'] at hr2
            cases hr2
            rw [← wrong_same hT.m]; exact q
          · exact hw j r' (by omega) hr2 hz
      · rintro σ' H6 ⟨rs', v6, v7, rfl, K6, P6, hR6, hT, hw⟩
        rw [List.length_map, las] at hw
        refine s_ret (ev_var rfl) fun H7 X7 => kont H7 l as rs' names hl0 hf0 (Kp.trans K6 (Kp.of X7)) (P6.mono X7) (hR6.mono X7) ⟨hA.thaw hT, fun r hr' hz => ?_⟩ (by rw [hT.len, hli]; omega)
        obtain ⟨j, hj⟩ := List.getElem?_of_mem hr'
        have hjl : j < rs'.length := (List.getElem?_eq_some_iff.mp hj).1
        rw [wrong_same hT.m]
        exact hw j r (by rw [← hT.len]; exact hjl) hj hz
theorem ok_root (T : Txt P K mg) : FnOk P w K mg base CX0 3 T.f_root T.d_root P_root (spRoot K) := by
  have G_one_of := ok_one_of (P := P) (w := w) (base := base) T
  refine T.F_root.ok sc_root (fun vs H Q E h => ?_) (fun cdv A outer s H vs Q E hr h => ?_)
  · obtain ⟨p, c, l, k, rs, rfl, _⟩ := h
    rfl
  · obtain ⟨p, c, l, k, rs, rfl, hP, hk, hl, hz, ⟨r0, h0, h1⟩, kont⟩ := h
    refine ⟨_, (pss_one (ps_ret (pe_call G_one_of hr (by rfl) T.g_one_of T.F_one_of.kp T.B_one_of .nil pass0 (pa_cons (pv 0) (pa_cons (pe_lc (own := [("_law_row_here", 2)]) (g := gName 2) (by rfl) sc_root.nd (pi_list (pv 1)) (blkOk_by (own := [("_law_row_here", 2)]) (N := N_root) (sc := defScope s_root) (by decide +kernel)) (fun _ _ _ _ _ => (pg_name (i := 2) sc_root.nd rfl (Or.inl rfl))) (fun _ _ _ _ _ => (pts_one (pt_cmpR op_isN (pe_dget (hu_of hr) (pv 2) pe_str (fun _ _ => rfl)) pe_non (nomark _)))) (fun _ _ _ _ _ => (pe_dget (hu_of hr) (pv 2) pe_str (fun _ _ => rfl)))) pa_nil))))), ?_⟩
    have hne : 0 < ((rs.filter fun r : Kd => decide (r.key = none)).map fun r : Kd => V.str r.name).length := by
      rw [List.length_map]
      exact List.length_pos_of_mem (List.mem_filter.mpr ⟨h0, by simpa using h1⟩)
    have hle : ((rs.filter fun r : Kd => decide (r.key = none)).map fun r : Kd => V.str r.name).length ≤ 100 := by
      rw [List.length_map]
      have := List.length_filter_le (fun r : Kd => decide (r.key = none)) rs
      omega
    refine oneL (K := K) rfl (el_fmL (K := K) (α := Kd) (g := fun r : Kd => decide (r.key = none)) (w := fun r : Kd => V.str r.name) rowAt_mono (ev_var rfl) hl (by omega) (fun _ => rfl) (fun x r H1 X1 hr hx => et_is (et_test (ev_op (ev_key (ev_var rfl) hx) ev_c rv_isN)) (by cases r.key <;> rfl)) fun x r H1 X1 hr hx => ev_name (ev_var rfl) hx) hP (by omega) hne hle fun H1 v hv K1 P1 => ?_
    obtain ⟨r, hr', rfl⟩ := List.mem_map.mp hv
    rw [List.mem_filter] at hr'
    exact kont H1 r hr'.1 (by simpa using hr'.2) K1 P1
end
end K03

namespace K03
open PySem L2 Way Evl
/-! rows that describe a kind -/
structure RGood (r : Kd) : Prop where
  n : knS r.name = true
  f : ∀ f ∈ r.fields, FGood f
  l : r.fields.length ≤ 10
  nd : (r.fields.map Fd.name).Nodup
  b : ∀ b, r.base = some b → knS b = true ∧ b ≠ r.name ∧ r.frozen = false ∧ r.heirs = false
  h : r.heirs = true → r.frozen = false ∧ r.key = none
  k : ∀ k, r.key = some k → fnS k = true
  g : r.registered = true → r.key ≠ none
theorem RGood.kr {r : Kd} (h : RGood r) (b : Bool) : fKR (.str r.name) (.seq b (r.fields.map .fld)) (oD r.base) (.bool r.frozen) (.bool r.heirs) (oD r.key) (.bool r.registered) = true := by
  have h1 : kc1 (.str r.name) (.seq b (r.fields.map .fld)) = false := by
    have ha : fAF (.seq b (r.fields.map .fld)) 10 = true := by
      simp only [fAF, Bool.and_eq_true, List.length_map]
      refine ⟨decide_eq_true h.l, List.all_eq_true.mpr fun e he => ?_, ?_⟩
      · obtain ⟨f, _, rfl⟩ := List.mem_map.mp he
        rfl
      · rw [List.map_map]
        exact nod_nodS h.nd
    have hn : fKN (.str r.name) = true := h.n
    simp [kc1, ha, hn]
  have h2 : kc2 (.str r.name) (oD r.base) = false := by
    cases e : r.base with
    | none => rfl
    | some x =>
      obtain ⟨q1, q2, _⟩ := h.b x e
      have hn : fKN (.str x) = true := q1
      simp [kc2, oD, Way.isNon, hn, strOf, q2]
  have h3 : kc3 (.bool r.frozen) (.bool r.heirs) (oD r.key) (.bool r.registered) = false := by
    cases e : r.key with
    | none => rfl
    | some x =>
      have hn : fFN (.str x) = true := h.k x e
      simp [kc3, oD, Way.isNon, hn, isBool]
  have h4 : kc4 (oD r.base) (.bool r.frozen) (.bool r.heirs) (oD r.key) = false := by
    have p1 : (!Way.isNon (oD r.base) && (bv (.bool r.frozen) || bv (.bool r.heirs))) = false := by
      cases e : r.base with
      | none => rfl
      | some x =>
        obtain ⟨_, _, q3, q4⟩ := h.b x e
        simp [bv, q3, q4]
    have p2 : (bv (.bool r.heirs) && (bv (.bool r.frozen) || !Way.isNon (oD r.key))) = false := by
      cases e : r.heirs with
      | false => rfl
      | true =>
        obtain ⟨q1, q2⟩ := h.h e
        simp [bv, q1, q2, oD, Way.isNon]
    simp [kc4, p1, p2]
  have h5 : kc5 (oD r.key) (.bool r.registered) = false := by
    cases e : r.registered with
    | false => rfl
    | true =>
      have := h.g e
      cases e2 : r.key with
      | none => exact absurd e2 this
      | some x => rfl
  simp [fKR, h1, h2, h3, h4, h5]
theorem RGood.kg {r : Kd} (h : RGood r) : KGood r := ⟨h.l, h.n, fun f hf hm => good_tgt (h.f f hf) hm⟩
theorem AllR.good {names : List Str} {rs : List Kd} (h : AllR names rs) : ∀ r ∈ rs, RGood r := fun r hr => by
  obtain ⟨i, hi, h1, h2⟩ := h.i.mem hr
  have hf := h.fits h1
  have hall : ∀ f ∈ gath (rs.take i) r, FGood f := fun f hf => by
    unfold gath at hf
    rcases List.mem_append.mp hf with z | z
    · unfold baseFs at z
      cases e : r.base with
      | none => rw [e] at z; cases z
      | some b =>
        rw [e] at z
        cases q : kfind (rs.take i) b with
        | none => simp only [q] at z; cases z
        | some rb =>
          simp only [q] at z
          obtain ⟨_, _, _, h5⟩ := h.i.mem (List.mem_of_mem_take (kfind_some q).1)
          exact (h5.f f z).1
    · exact (h2.f f z).1
  refine ⟨h.kn _ (List.mem_of_getElem? h2.n), fun f hf => (h2.f f hf).1, by have := h2.l; omega, ?_, fun b hb => ?_, fun z => ⟨(h2.h z).1, (h2.h z).2.1⟩, fun y hy => ?_, h2.g⟩
  · have := h2.nd
    unfold gath at this
    rw [List.map_append, List.nodup_append] at this
    exact this.2.1
  · obtain ⟨q1, q2, rb, q3, q4, q5⟩ := h2.b b hb
    obtain ⟨j, _, _, q6⟩ := h.i.mem (List.mem_of_mem_take q3)
    refine ⟨by rw [← q4]; exact h.kn _ (List.mem_of_getElem? q6.n), fun e => ?_, q1, q2⟩
    simp only [fitsK, Bool.and_eq_true, Bool.not_eq_true', decide_eq_false_iff_not] at hf
    refine hf.1 ?_
    rw [← e, ← q4]
    exact List.mem_map_of_mem q3
  · obtain ⟨f, hf, e⟩ := List.mem_map.mp (h2.k y hy).2
    have := hall f hf
    unfold FGood at this
    simp only [fFR, Bool.and_eq_true] at this
    rw [← e]
    exact this.1
theorem fdd_inj {f g : Fd} {d0 d1 d2 d3 d4 : PyData} (h : FdD f d0 d1 d2 d3 d4) (k : FdD g d0 d1 d2 d3 d4) : f = g := by
  obtain ⟨h1, h2, h3, h4, h5⟩ := h
  obtain ⟨k1, k2, k3, k4, k5⟩ := k
  subst h1 h2 h3 h4
  have e1 := PyData.str.inj k1
  have e2 := PyData.str.inj k2
  have e4 := PyData.int.inj k4
  have e3 : f.tgt = g.tgt := by
    cases a : f.tgt <;> cases b : g.tgt <;> rw [a, b] at k3 <;> simp_all [oD]
  have e5 : f.was = g.was := by
    rw [h5] at k5
    have := Option.some.inj k5
    exact (List.map_inj_right (fun x y z => PyData.str.inj z)).mp this
  cases f; cases g
  simp_all
theorem oD_inj {a b : Option Str} (h : oD a = oD b) : a = b := by cases a <;> cases b <;> simp_all [oD]
theorem kdd_inj {r : Kd} {b : Bool} {kd : Kd} (h : KdD kd (.str r.name) (.seq b (r.fields.map .fld)) (oD r.base) (.bool r.frozen) (.bool r.heirs) (oD r.key) (.bool r.registered)) : kd = r := by
  obtain ⟨h1, ⟨b', h2⟩, h3, h4, h5, h6, h7⟩ := h
  have e1 := PyData.str.inj h1
  have e2 : r.fields = kd.fields := (List.map_inj_right (fun x y z => El.fld.inj z)).mp (Fv.seq.inj h2).2
  have e3 := oD_inj h3
  have e4 := PyData.bool.inj h4
  have e5 := PyData.bool.inj h5
  have e6 := oD_inj h6
  have e7 := PyData.bool.inj h7
  cases r; cases kd
  simp_all
theorem log_big {d : Int} (h : -1000000000000 < d ∧ d < 1000000000000) : d.natAbs.log2 < 200 := by
  by_cases z : d.natAbs = 0
  · rw [z]; decide
  · have := (Nat.log2_lt (n := d.natAbs) (k := 40) z).mpr (by omega)
    omega
/-- plain strings throughout -/
structure FdPl (f : Fd) : Prop where
  n : plS f.name = true
  m : plS f.mode = true
  t : plA (oD f.tgt) = true
  d : f.dfl.natAbs.log2 < 200
  w : ∀ x ∈ f.was, plS x = true
  l : f.was.length ≤ 2
theorem good_pl {f : Fd} (h : FGood f) : FdPl f := by
  unfold FGood at h
  simp only [fFR, Bool.and_eq_true] at h
  obtain ⟨h1, h2, h3⟩ := h
  have hw : f.was.length ≤ 2 ∧ ∀ x ∈ f.was, fnS x = true := by
    simp only [fEL, seqOf] at h3
    have hl : f.was.length ≤ 2 := by
      apply Classical.byContradiction
      intro z
      rw [elds_3 _ (by rw [List.length_map]; omega)] at h3; cases h3
    refine ⟨hl, fun x hx => ?_⟩
    have h4 := elds_eq f.name (ds := f.was.map .str) (by rw [List.length_map]; exact hl)
    rw [h3] at h4
    have h5 := (Bool.and_eq_true_iff.mp h4.symm).1
    unfold elA at h5
    rw [List.all_map] at h5
    have := List.all_eq_true.mp h5 (.str x) (List.mem_map_of_mem hx)
    simp only [Function.comp, id, Bool.and_eq_true] at this
    exact this.1
  have hm : plS f.mode = true ∧ plA (oD f.tgt) = true ∧ f.dfl.natAbs.log2 < 200 := by
    unfold fFM at h2
    by_cases e : f.mode = "mark"
    · simp only [e, if_true, Bool.and_eq_true, decide_eq_true_eq] at h2
      refine ⟨by rw [e]; decide +kernel, ?_, log_big ?_⟩
      · cases q : f.tgt with
        | none => rfl
        | some t => rw [q] at h2; cases h2.1
      · exact h2.2
    · simp only [e, if_false] at h2
      split at h2
      · rename_i e2
        simp only [Bool.and_eq_true, decide_eq_true_eq] at h2
        refine ⟨?_, ?_, by rw [h2.2]; decide⟩
        · rcases e2 with e2 | e2 <;> rw [e2] <;> decide +kernel
        · cases q : f.tgt with
          | none => rfl
          | some t =>
            rw [q] at h2
            have h3 := h2.1
            simp only [fTG, oD, fKN, fAny, Bool.or_eq_true, decide_eq_true_eq] at h3
            rcases h3 with z | z
            · exact knS_pl z
            · rw [z]; exact any_pl
      · cases h2
  exact ⟨fnS_pl h1, hm.1, hm.2.1, hm.2.2, fun x hx => fnS_pl (hw.2 x hx), hw.1⟩
theorem pv_strs {K : PySem.W.Frag} {H : Hp} {t : Addr} {ws : List Str} (h : SqT K H t (ws.map V.str)) (hp : ∀ x ∈ ws, plS x = true) (hl : ws.length ≤ 3) : PV K H (.ref t) (.tuple (ws.map .str)) := by
  refine .dp (.tup h (dp_strs ws)) ?_
  simp only [pl, List.length_map, Bool.and_eq_true]
  refine ⟨decide_eq_true hl, List.all_eq_true.mpr fun d hd => ?_⟩
  obtain ⟨x, hx, rfl⟩ := List.mem_map.mp hd
  exact hp x hx
theorem pv_oo {K : PySem.W.Frag} {H : Hp} {o : Option Str} (h : plA (oD o) = true) : PV K H (oV o) (oD o) := by
  cases o with
  | none => exact .dp .non rfl
  | some x => exact .dp (.str x) h
section
variable {X : Cx} {P : Program} {K : PySem.W.Frag} {mg : Str → Option Value}
theorem kbF0 (T : Txt P K mg) : ∃ mv : List Value, KBn K T.d_Field_init P_Field_init 3 ["default", "was"] (fun us ws => us ++ (mv ++ ws)) (fun vs zs => vs ++ ([V.non] ++ zs)) :=
  kbinds0 T.F_Field_init 3 ["default", "was"] [("target", .non)] (fun us mv ws => us ++ (mv ++ ws)) (by simp) (by simp) (fun a b c => a.append (b.append c)) fun D doc pm an cdv ct us mv ws h1 h2 h3 => match us, mv, ws, h1, h2, h3 with
    | [_, _, _], [_], [_, _], _, _, _ => ⟨_, _, _, _, _, _, rfl, rfl, rfl⟩
theorem kbF1 (T : Txt P K mg) : ∃ mv : List Value, KBn K T.d_Field_init P_Field_init 3 ["target", "was"] (fun us ws => us ++ (ws.take 1 ++ (mv ++ ws.drop 1))) (fun vs zs => vs ++ (zs.take 1 ++ ([V.int 0] ++ zs.drop 1))) :=
  kbinds0 T.F_Field_init 3 ["target", "was"] [("default", .int 0)] (fun us mv ws => us ++ (ws.take 1 ++ (mv ++ ws.drop 1))) (by simp) (by simp) (fun a b c => a.append ((c.take 1).append (b.append (c.drop 1)))) fun D doc pm an cdv ct us mv ws h1 h2 h3 => match us, mv, ws, h1, h2, h3 with
    | [_, _, _], [_], [_, _], _, _, _ => ⟨_, _, _, _, _, _, rfl, rfl, rfl⟩
end
/-- a field that is made -/
theorem fld_core {K : PySem.W.Frag} {C CB x dx : Addr} {H1 : Hp} {f : Fd} {t : Addr} {Q : Hp → Prop} {E : XK} (hx : H1 x = none) (hd : H1 dx = none) (hn : dx ≠ x) (hf : FGood f) (hw : SqT K H1 t (f.was.map V.str)) (kq : ∀ H', Ex H1 H' → FAt K C f (.ref x) H' → Q H') :
    spFld K C CB [.ref x, .str f.name, .str f.mode, oV f.tgt, .int f.dfl, .ref t] (upd (upd H1 dx (.own x)) x (.ins C dx [])) (fun v H2 => v = .non ∧ Q H2) E := by
  have X : Ex H1 (upd (upd H1 dx (.own x)) x (.ins C dx [])) := fun b o e => by
    rw [upd_ne (ne_of_none e hx), upd_ne (ne_of_none e hd)]; exact e
  have g := good_pl hf
  have hd' : FdD f (.str f.name) (.str f.mode) (oD f.tgt) (.int f.dfl) (.tuple (f.was.map .str)) := ⟨rfl, rfl, rfl, rfl, rfl⟩
  exact ⟨x, dx, _, _, _, _, _, _, _, _, _, _, rfl, upd_same, .dp (.str _) g.n, .dp (.str _) g.m, pv_oo g.t, .dp (.int _) (by simp only [pl, plA]; exact decide_eq_true g.d), pv_strs (ex_t X hw) g.w (by have := g.l; omega), fun f' hf' hr H' k hF => ⟨rfl, kq H' (fun b o e => k b o (ne_of_none e hx) (X b o e)) (by rw [fdd_inj hf' hd'] at hF; exact hF)⟩, fun hr => by unfold FGood at hf; rw [hf] at hr; cases hr⟩
theorem pr_map {K : PySem.W.Frag} {C : Addr} {H : Hp} : ∀ {xs : List V} {gs : List Fd}, Paired (fun x f => FAt K C f x H) xs gs → Paired (fun x e => ElAt K C e x H) xs (gs.map .fld)
  | [], [], .nil => .nil
  | _ :: _, _ :: _, .cons a r => .cons a (pr_map r)
def spMF (K : PySem.W.Frag) (C : Addr) : Sp := fun vs H Q _ => ∃ (v : V) (f : Fd), vs = [v] ∧ FtAt K f v H ∧ FGood f ∧ ∀ u H', Ex H H' → FAt K C f u H' → Q u H'
def spMK (K : PySem.W.Frag) (CF CK : Addr) : Sp := fun vs H Q _ => ∃ (v : V) (r : Kd), vs = [v] ∧ RowAt K r v H ∧ RGood r ∧ ∀ u H', Ex H H' → KAt K CF CK r u H' → Q u H'
theorem fat_stay {K : PySem.W.Frag} {C : Addr} : Stay (FAt K C) := fun f v H H' D acc h1 h2 h => h.keep (kpi_lst h1 h2)
theorem kat_stay {K : PySem.W.Frag} {CF CK : Addr} : Stay (KAt K CF CK) := fun f v H H' D acc h1 h2 h => h.keep (kpi_lst h1 h2)
theorem kat_mono {K : PySem.W.Frag} {CF CK : Addr} : Mon (KAt K CF CK) := fun _ _ _ _ e h => h.mono e
section
variable {H : Hp} {σ : L2.St} {C : Addr} {n m : Nat} {sp : Sp} {D : Ends} {t tk : TA} {E : XK} {gV : List V → List V → List V} {vs zs ws : List V}
theorem s_mkG (h1 : EvA t σ H vs) (h2 : EvA tk σ H zs) (hn : vs.length = n) (hm : zs.length = m) (hg : ∀ x, gV (.ref x :: vs) zs = .ref x :: ws) (k : ∀ H2, Ex H H2 → ∀ x dx, H2 x = none → H2 dx = none → dx ≠ x → sp (.ref x :: ws) (upd (upd H2 dx (.own x)) x (.ins C dx [])) (fun v H3 => v = .non ∧ D.rt (.ref x) H3) E) :
    tRet (tMakeK C n m sp gV E t tk) D σ H := h1 H (Ex.refl H) _ fun H1 X1 => h2 H1 X1 _ fun H2 X2 => ⟨hn, hm, fun x dx hx hd hne => by rw [hg]; exact k H2 (X1.trans X2) x dx hx hd hne⟩
theorem s_mkD {E : L2.St → XK} {dvs : List V} (h1 : EvA t σ H vs) (k : ∀ H2, Ex H H2 → ∀ x dx, H2 x = none → H2 dx = none → dx ≠ x → sp (.ref x :: (vs ++ dvs)) (upd (upd H2 dx (.own x)) x (.ins C dx [])) (fun v H3 => v = .non ∧ D.nx σ H3) (E σ)) :
    tDrop (tMakeSD C sp dvs E t) D σ H := h1 H (Ex.refl H) _ fun H1 X1 x dx hx hd hn => k H1 X1 x dx hx hd hn
end
section
variable {P : Program} {w : World} {K : PySem.W.Frag} {mg : Str → Option Value} {base : Heap}
theorem ok_made_field (T : Txt P K mg) : FnOk P w K mg base CX0 7 T.f_made_field T.d_made_field P_made_field (spMF K T.C_Field) := by
  have G_Field_init := ok_Field_init (P := P) (w := w) (base := base) T
  obtain ⟨mv0, kb_Field_init_1⟩ := kbF0 T
  obtain ⟨mv1, kb_Field_init_0⟩ := kbF1 T
  refine T.F_made_field.ok sc_made_field (fun vs H Q E h => ?_) (fun cdv A outer s H vs Q E hr h => ?_)
  · obtain ⟨v, f, rfl, _⟩ := h
    rfl
  · obtain ⟨v, f, rfl, hv, hf, kont⟩ := h
    refine ⟨_, (pss_cons (ps_if (pt_cmpR op_eq (pe_ix ix_tup (pv 0) pe_int (fun _ _ => rfl)) pe_str (nomark _)) (pss_one (ps_ret (pe_makeK T.M_Field G_Field_init (hr.mono (by decide)) (by rfl) T.g_Field kb_Field_init_1 L2.passL (pa_cons (pe_ix ix_tup (pv 0) pe_int (fun _ _ => rfl)) (pa_cons pe_str pa_nil)) (pk_cons (pe_ix ix_tup (pv 0) pe_int (fun _ _ => rfl)) (pk_cons (pe_ix ix_tup (pv 0) pe_int (fun _ _ => rfl)) pk_nil))))) pss_nil)
      (pss_one (ps_ret (pe_makeK T.M_Field G_Field_init (hr.mono (by decide)) (by rfl) T.g_Field kb_Field_init_0 L2.passL (pa_cons (pe_ix ix_tup (pv 0) pe_int (fun _ _ => rfl)) (pa_cons (pe_ix ix_tup (pv 0) pe_int (fun _ _ => rfl)) pa_nil)) (pk_cons (pe_ix ix_tup (pv 0) pe_int (fun _ _ => rfl)) (pk_cons (pe_ix ix_tup (pv 0) pe_int (fun _ _ => rfl)) pk_nil)))))), ?_⟩
    have g := hf
    unfold FGood at g
    simp only [fFR, Bool.and_eq_true] at g
    refine q_when (b := decide (f.mode = "mark")) (et_is (et_test (ev_op (ev_f1 (ev_var rfl) hv) ev_c (rv_eq rfl))) (by simp)) (fun q H1 X1 => ?_) (fun q H1 X1 => ?_)
    · have e : f.mode = "mark" := of_decide_eq_true q
      have hv1 := ftAt_mono _ _ _ _ X1 hv
      obtain ⟨t, wt, rfl, h1, h2⟩ := id hv1
      have et : f.tgt = none := by
        have := g.2.1
        simp only [fFM, e, if_true, Bool.and_eq_true] at this
        cases z : f.tgt with
        | none => rfl
        | some x => rw [z] at this; cases this.1
      have ew : Ev (tOp (rIxT K) (tVar 0) (tC (.int 4))) [some (.ref t)] H1 (.ref wt) := ev_op (ev_var rfl) ev_c (rv_ixT h1 (at_of (j := 4) rfl rfl))
      refine s_mkG (vs := [.str f.name, .str "mark"]) (zs := [.int f.dfl, .ref wt]) (ws := [.str f.name, .str "mark", .non, .int f.dfl, .ref wt]) (ea_cons (ev_f0 (ev_var rfl) hv1) (ea_cons ev_c ea_nil)) (ea_cons (ev_f3 (ev_var rfl) hv1) (ea_cons ew ea_nil)) rfl rfl (fun _ => rfl) fun H2 X2 x dx hx hd hn => ?_
      have := fld_core (K := K) (C := T.C_Field) (CB := T.C_BadField) (f := f) (t := wt) (E := E0) hx hd hn hf (ex_t X2 h2) (Q := fun H' => Q (.ref x) H') fun H' X' hF => kont _ H' (X1.trans (X2.trans X')) hF
      rw [e, et] at this
      exact this
    · have e : f.mode ≠ "mark" := of_decide_eq_false q
      have hv1 := ftAt_mono _ _ _ _ X1 hv
      obtain ⟨t, wt, rfl, h1, h2⟩ := id hv1
      have ed : f.dfl = 0 := by
        have := g.2.1
        simp only [fFM, e, if_false] at this
        split at this
        · simp only [Bool.and_eq_true, decide_eq_true_eq] at this
          exact this.2
        · cases this
      have ew : Ev (tOp (rIxT K) (tVar 0) (tC (.int 4))) [some (.ref t)] H1 (.ref wt) := ev_op (ev_var rfl) ev_c (rv_ixT h1 (at_of (j := 4) rfl rfl))
      refine s_mkG (vs := [.str f.name, .str f.mode]) (zs := [oV f.tgt, .ref wt]) (ws := [.str f.name, .str f.mode, oV f.tgt, .int 0, .ref wt]) (ea_cons (ev_f0 (ev_var rfl) hv1) (ea_cons (ev_f1 (ev_var rfl) hv1) ea_nil)) (ea_cons (ev_f2 (ev_var rfl) hv1) (ea_cons ew ea_nil)) rfl rfl (fun _ => rfl) fun H2 X2 x dx hx hd hn => ?_
      have := fld_core (K := K) (C := T.C_Field) (CB := T.C_BadField) (f := f) (t := wt) (E := E0) hx hd hn hf (ex_t X2 h2) (Q := fun H' => Q (.ref x) H') fun H' X' hF => kont _ H' (X1.trans (X2.trans X')) hF
      rw [ed] at this
      exact this
theorem ok_made_kind (T : Txt P K mg) : FnOk P w K mg base CX0 8 T.f_made_kind T.d_made_kind P_made_kind (spMK K T.C_Field T.C_Kind) := by
  have G_made_field := ok_made_field (P := P) (w := w) (base := base) T
  have G_Kind_init := ok_Kind_init (P := P) (w := w) (base := base) T
  obtain ⟨mv, kb_Kind_init_0⟩ := kbK T
  refine T.F_made_kind.ok sc_made_kind (fun vs H Q E h => ?_) (fun cdv A outer s H vs Q E hr h => ?_)
  · obtain ⟨v, r, rfl, _⟩ := h
    rfl
  · obtain ⟨v, r, rfl, hv, hg, kont⟩ := h
    refine ⟨_, (pss_cons (ps_setLc (i := 1) (own := [("_law_field_here", 2)]) (g := gName 2) (by rfl) sc_made_kind.nd rfl rfl (sw_true rfl rfl rfl (by decide +kernel)) (pi_list (pe_dget (hu_of hr) (pv 0) pe_str (fun _ _ => rfl))) (blkOk_by (own := [("_law_field_here", 2)]) (N := N_made_kind) (sc := defScope s_made_kind) (by decide +kernel)) (fun _ _ _ _ _ => (pg_name (i := 2) sc_made_kind.nd rfl (Or.inl rfl))) (fun _ _ _ _ _ => pts_nil) (fun _ _ _ _ _ => (pe_call G_made_field hr (by rfl) T.g_made_field T.F_made_field.kp T.B_made_field .nil pass0 (pa_cons (pv 2) pa_nil))))
      (pss_one (ps_ret (pe_makeK T.M_Kind G_Kind_init (hr.mono (by decide)) (by rfl) T.g_Kind kb_Kind_init_0 L2.passL (pa_cons (pe_dget (hu_of hr) (pv 0) pe_str (fun _ _ => rfl)) (pa_cons (pv 1) pa_nil)) (pk_cons (pe_dget (hu_of hr) (pv 0) pe_str (fun _ _ => rfl)) (pk_cons (pe_dget (hu_of hr) (pv 0) pe_str (fun _ _ => rfl)) (pk_cons (pe_dget (hu_of hr) (pv 0) pe_str (fun _ _ => rfl)) (pk_cons (pe_dget (hu_of hr) (pv 0) pe_str (fun _ _ => rfl)) (pk_cons (pe_dget (hu_of hr) (pv 0) pe_str (fun _ _ => rfl)) pk_nil))))))))), ?_⟩
    obtain ⟨a, o, xs, e, h1, h2, h3⟩ := id hv
    subst e
    have l10 := hg.l
    refine n_asg (P := LAt (FAt K T.C_Field) (r.fields.map id)) (en_mapL (K := K) (α := Fd) (β := Fd) (P := FtAt K) (R := FAt K T.C_Field) (c := id) ftAt_mono fat_stay (ev_dgetK (ev_var rfl) ev_c h1 rk_own) ⟨o, xs, rfl, h2, h3⟩ (by omega) (fun _ => rfl) fun x f H1 X1 hf hx => ?_) fun fl H1 hfl X1 hfs => ?_
    · exact fun H2 X2 Q' q' => ⟨x, rfl, x, f, rfl, ftAt_mono _ _ _ _ X2 hx, hg.f f hf, fun u H3 X3 hF => q' u H3 X3 hF⟩
    · rw [List.map_id] at hfs
      have hv1 := rowAt_mono _ _ _ _ X1 hv
      refine s_mkG (vs := [.str r.name, .ref fl]) (zs := [oV r.base, .bl r.frozen, .bl r.heirs, oV r.key, .bl r.registered]) (ws := [.str r.name, .ref fl, oV r.base, .bl r.frozen, .bl r.heirs, oV r.key, .bl r.registered]) (ea_cons (ev_name (ev_var rfl) hv1) (ea_cons (ev_var rfl) ea_nil)) (ea_cons (ev_base (ev_var rfl) hv1) (ea_cons (ev_frozen (ev_var rfl) hv1) (ea_cons (ev_heirs (ev_var rfl) hv1) (ea_cons (ev_key (ev_var rfl) hv1) (ea_cons (ev_rk (ev_var rfl) hv1 fun _ => rk_registered) ea_nil))))) rfl rfl (fun _ => rfl) fun H2 X12 x dx hx hd hn => ?_
      have X : Ex H2 (upd (upd H2 dx (.own x)) x (.ins T.C_Kind dx [])) := fun b o e => by
        rw [upd_ne (ne_of_none e hx), upd_ne (ne_of_none e hd)]; exact e
      have X' := X12.trans X
      obtain ⟨fl', ys, ef, hf1, hf2⟩ := LAt.mono (P := FAt K T.C_Field) fAt_mon X' hfs
      cases ef
      have pn : PV K (upd (upd H2 dx (.own x)) x (.ins T.C_Kind dx [])) (.str r.name) (.str r.name) := .dp (.str _) (knS_pl hg.n)
      have pb : PV K (upd (upd H2 dx (.own x)) x (.ins T.C_Kind dx [])) (oV r.base) (oD r.base) := pv_oo (by
        cases e : r.base with
        | none => rfl
        | some b => exact knS_pl (hg.b b e).1)
      have pk : PV K (upd (upd H2 dx (.own x)) x (.ins T.C_Kind dx [])) (oV r.key) (oD r.key) := pv_oo (by
        cases e : r.key with
        | none => rfl
        | some b => exact fnS_pl (hg.k b e))
      have hfv : FvAt K T.C_Field (.seq true (r.fields.map .fld)) (.ref fl) (upd (upd H2 dx (.own x)) x (.ins T.C_Kind dx [])) := ⟨fl, ys, rfl, hf1, by
        exact pr_map hf2⟩
      exact ⟨x, dx, _, _, _, _, _, _, _, _, _, _, _, _, _, _, rfl, upd_same, pn, hfv, pb, .dp (.bl _) rfl, .dp (.bl _) rfl, pk, .dp (.bl _) rfl, fun kd hk hr' H' k hK => ⟨rfl, kont _ H' (fun b o e => k b o (ne_of_none ((X1.trans X12) b o e) hx) ((X1.trans X') b o e)) (by rw [kdd_inj hk] at hK; exact hK)⟩, fun hr' => by rw [hg.kr] at hr'; cases hr'⟩
end
/-! a house that is asked for -/
def resL (ks : List Kd) (rv : V) (d : PyData) : HR → List V
  | .kind n => [.str "bad", .str n]
  | .root => [.str "bad", rv]
  | .fine => []
theorem hs_core {K : PySem.W.Frag} {CF CK CH CB x dx a : Addr} {b : Bool} {H2 : Hp} {rv : V} {dr : PyData} {ks : List Kd} {xs : List V} {E : XK} {Q : Hp → Prop} (hx : H2 x = none) (hd : H2 dx = none) (hn : dx ≠ x) (pr : PV K H2 rv dr) (hs : SqB K H2 b a xs) (hp : Paired (fun x k => KAt K CF CK k x H2) xs ks) (hg : ∀ k ∈ ks, KGood k) (l1 : 1 ≤ ks.length) (l12 : ks.length ≤ 12)
    (kk : match hres ks dr with
      | .kind n => ∀ d H', Ex H2 H' → H' d = some (.xd [("name", .str n)]) → E (.ref CB) (some d) H'
      | .root => ∀ d H', Ex H2 H' → H' d = some (.xd [("name", rv)]) → E (.ref CB) (some d) H'
      | .fine => ∀ H', Ex H2 H' → HpAt K CF CK CH (ks.zip xs) x H' → (∃ dx fs, H' x = some (.ins CH dx fs) ∧ fs.lookup ("root" : Str) = some rv) → Q H') :
    spHi K CF CK CH CB [.ref x, rv, .ref a] (upd (upd H2 dx (.own x)) x (.ins CH dx [])) (fun v H3 => v = .non ∧ Q H3) E := by
  have X : Ex H2 (upd (upd H2 dx (.own x)) x (.ins CH dx [])) := fun b o e => by
    rw [upd_ne (ne_of_none e hx), upd_ne (ne_of_none e hd)]; exact e
  have XX : ∀ {H'}, Kp x (upd (upd H2 dx (.own x)) x (.ins CH dx [])) H' → Ex H2 H' := fun k b o e => k b o (ne_of_none e hx) (X b o e)
  have lx : xs.length = ks.length := Paired.length hp
  refine ⟨x, dx, rv, _, dr, rfl, upd_same, pr.mono X, .inr ⟨a, b, xs, ks.map some, rfl, hs.mono X, ?_, fun kd hk => ?_, by omega, fun z => ?_, fun ks' e _ _ => ?_⟩⟩
  · clear kk hg l1 l12 lx hs
    induction hp with
    | nil => exact .nil
    | cons h _ ih => exact .cons (h.mono X) ih
  · obtain ⟨k, hk', e⟩ := List.mem_map.mp hk
    exact Option.some.inj e ▸ hg k hk'
  · rw [List.length_map] at z
    rcases z with z | z | z
    · omega
    · omega
    · obtain ⟨k, _, e⟩ := List.mem_map.mp z
      cases e
  · have e' : ks' = ks := ((List.map_inj_right (fun x y z => Option.some.inj z)).mp e).symm
    subst e'
    revert kk
    cases hres ks' dr with
    | kind n => exact fun kk d H' k hd' => kk d H' (XX k) hd'
    | root => exact fun kk d H' k hd' => kk d H' (XX k) hd'
    | fine => exact fun kk H' k hh hr => ⟨rfl, kk H' (XX k) hh hr⟩
def spTold (K : PySem.W.Frag) : Sp := fun vs H Q _ => ∃ (l : Addr) (rv : V) (dr : PyData) (rs : List Kd), vs = [.ref l, rv] ∧ RsAt K rs l H ∧ (∀ r ∈ rs, RGood r) ∧ 1 ≤ rs.length ∧ rs.length ≤ 12 ∧ PV K H rv dr ∧ ∀ p H', H p = none → Ex H H' → H' p = some (.lst (resL rs rv dr (hres rs dr))) → Q (.ref p) H'
section
variable {P : Program} {w : World} {K : PySem.W.Frag} {mg : Str → Option Value} {base : Heap}
theorem ok_told (T : Txt P K mg) : FnOk P w K mg base CX0 10 T.f_told T.d_told P_told (spTold K) := by
  have G_made_kind := ok_made_kind (P := P) (w := w) (base := base) T
  have G_House_init := ok_House_init (P := P) (w := w) (base := base) T
  refine T.F_told.ok sc_told (fun vs H Q E h => ?_) (fun cdv A outer s H vs Q E hr h => ?_)
  · obtain ⟨l, rv, dr, rs, rfl, _⟩ := h
    rfl
  · obtain ⟨l, rv, dr, rs, rfl, hl, hg, l1, l12, pr, kont⟩ := h
    refine ⟨_, (pss_cons (ps_setLc (i := 2) (own := [("_law_row_here", 4)]) (g := gName 4) (by rfl) sc_told.nd rfl rfl (sw_true rfl rfl rfl (by decide +kernel)) (pi_list (pv 0)) (blkOk_by (own := [("_law_row_here", 4)]) (N := N_told) (sc := defScope s_told) (by decide +kernel)) (fun _ _ _ _ _ => (pg_name (i := 4) sc_told.nd rfl (Or.inl rfl))) (fun _ _ _ _ _ => pts_nil) (fun _ _ _ _ _ => (pe_call G_made_kind (hr.mono (by decide)) (by rfl) T.g_made_kind T.F_made_kind.kp T.B_made_kind .nil pass0 (pa_cons (pv 4) pa_nil))))
      (pss_cons (ps_try_as (i := 3) rfl rfl sc_told.nd rfl rfl ⟨by rfl, by decide, .inl T.g_BadHouse⟩ Way.takes0 (fun W pn xe tk po => (pss_one (ps_expr (Way.pe_makeSD T.M_House G_House_init (hr.mono (by decide)) (by rfl) T.g_House T.B_House_init .nil (fun σ => passAt tk σ) (pa_cons (pv 1) (pa_cons (pv 2) pa_nil)))))) (fun a oe cls d pn hz hf => (pss_one (ps_ret (pe_lst (pa_cons pe_str (pa_cons (pe_xf T.X_BadHouse.xf T.na_BadHouse_name hz hf (pv 3)) pa_nil)))))))
      (pss_one (ps_ret (pe_lst pa_nil))))), ?_⟩
    refine n_asg (P := LAt (KAt K T.C_Field T.C_Kind) (rs.map id)) (en_mapL (K := K) (α := Kd) (β := Kd) (P := RowAt K) (R := KAt K T.C_Field T.C_Kind) (c := id) rowAt_mono kat_stay (ev_var rfl) hl (by omega) (fun _ => rfl) fun x r H1 X1 hr' hx => ?_) fun kl H1 hkl X1 hks => ?_
    · exact fun H2 X2 Q' q' => ⟨x, rfl, x, r, rfl, rowAt_mono _ _ _ _ X2 hx, hg r hr', fun u H3 X3 hF => q' u H3 X3 hF⟩
    · rw [List.map_id] at hks
      obtain ⟨kl', xs, e, h1, h2⟩ := hks
      cases e
      have bad : ∀ (d : Addr) (H2 : Hp) (n : V), Ex H1 H2 → H2 d = some (.xd [("name", n)]) → resL rs rv dr (hres rs dr) = [.str "bad", n] → ∀ a, tRet (tLst (tCons (tC (.str "bad")) (tCons (tXf a (.ref T.C_BadHouse) (some d) T.C_BadHouse "name" (tVar 3)) tNil))) { nx := fun _ H' => Q .non H', rt := Q } [some (.ref l), some rv, some (.ref kl), some (.ref a), none] H2 := fun d H2 n X2 hd e a => by
        refine s_retL (el_lst (ea_cons ev_c (ea_cons (ev_xf (ev_var rfl) hd rfl) ea_nil)) (Nat.le_of_ble_eq_true rfl)) fun p H3 hp X3 h3 => kont p H3 (fresh_back (X1.trans X2) hp) ((X1.trans X2).trans X3) (by rw [e]; exact h3)
      refine s_mkD (vs := [rv, .ref kl]) (ea_cons (ev_var rfl) (ea_cons (ev_var rfl) ea_nil)) fun H2 X2 x dx hx hd hn => ?_
      refine hs_core (b := true) hx hd hn (pr.mono (X1.trans X2)) (X2 _ _ h1) (Paired.mapP h2 fun _ _ z => z.mono X2) (fun k hk => (hg k hk).kg) l1 l12 ?_
      cases e : hres rs dr with
      | kind n => exact fun d H' X' hd' => ⟨true, T.X_BadHouse.exmSelf, fun _ a ha => bad d H' _ (X2.trans X') hd' (by rw [e]; rfl) a, fun z => nomatch z⟩
      | root => exact fun d H' X' hd' => ⟨true, T.X_BadHouse.exmSelf, fun _ a ha => bad d H' _ (X2.trans X') hd' (by rw [e]; rfl) a, fun z => nomatch z⟩
      | fine => exact fun H' X' hh hr' => s_retL (σ := []) (el_lst ea_nil (Nat.zero_le _)) fun p H3 hp X3 h3 => kont p H3 (fresh_back (X1.trans (X2.trans X')) hp) ((X1.trans (X2.trans X')).trans X3) (by rw [e]; exact h3)
end
end K03

namespace K03
open PySem L2 Way Evl
/-! which kind is wrong -/
theorem pe_cnt {X : Cx} {K : PySem.W.Frag} {o e : Expr} {to te : TE} {apos cpos : Pos} (h : X.K = K) (ho : PE X o to) (he : PE X e te) (hbase : attributeBase o "count" X.env (eval o X.env) = eval o X.env := by rfl)
    (hfew : ((backTo cpos (starEach [e] X.env)).all (fun x => !x.1) && (backToKw cpos (keywordEach [] X.env)).all (fun x => x.1.isSome) && decide (([e] : List Expr).length + ([] : List Keyword).length + (if ([] : List Keyword).isEmpty then 0 else 1) < 30)) = true := by rfl)
    (hline : (apos.endLine == cpos.line) = true := by rfl) (hs : starEach [e] X.env = (false, eval e X.env) :: starEach [] X.env := by rfl) : PE X (.Call (.Attribute o "count" apos) [e] [] cpos) (tBM K "list" (rCntS K) to (tCons te tNil)) := by
  subst h
  exact pe_bm PySem.F.plainAttrs_list PySem.F.slot_list_count PySem.F.type_list_count Way.mt_cntS ho (pa_cons he pa_nil hs) hbase hfew hline hs rfl
theorem cutV_take {xs : List V} {k : Nat} : cutV xs none (some (k : Int)) = xs.take k := by
  unfold cutV
  rw [show HT.sIx xs.length 0 none = 0 from rfl, List.drop_zero, Nat.sub_zero, HT.sIx_nat]
  rcases Nat.le_total k xs.length with h | h
  · rw [Nat.min_eq_left h]
  · rw [Nat.min_eq_right h, List.take_length, List.take_of_length_le h]
theorem pr_take {α : Type} {R : V → α → Prop} {xs : List V} {S : List α} (h : Paired R xs S) : ∀ k, Paired R (xs.take k) (S.take k) := by
  induction h with
  | nil => intro k; simp only [List.take_nil]; exact .nil
  | cons a _ ih =>
    intro k
    cases k with
    | zero => exact .nil
    | succ k => exact .cons a (ih k)
/-- l[:k] -/
theorem en_take {K : PySem.W.Frag} {α : Type} {P : α → V → Hp → Prop} {S : List α} {σ : L2.St} {H : Hp} {te th : TE} {u : V} {k : Nat} (m : Mon P) (h : Ev te σ H u) (hk : Ev th σ H (.int (k : Int))) (hp : LAt P S u H) : EvN (tSl (rSlL K) te tNoPart (tPart th)) σ H (LAt P (S.take k)) := fun H1 e Q q => by
  obtain ⟨l, xs, rfl, h1, hx⟩ := hp
  refine (el_sl (K := K) h eo_none (eo_some hk) (sq_of h1) : EvL _ _ H _) H1 e Q fun p H2 hn e2 h2 => ?_
  rw [cutV_take] at h2
  exact q p H2 hn e2 ⟨p, _, rfl, h2, Paired.mapP (pr_take hx k) fun _ _ z => m _ _ _ _ (e.trans e2) z⟩
/-- rows before the k-th fit -/
def FitsTo (rs : List Kd) (k : Nat) : Prop := ∀ j r, j < k → rs[j]? = some r → fitsK (rs.take j) (nms rs) r = true
theorem FitsTo.succ {rs : List Kd} {k : Nat} {r : Kd} (h : FitsTo rs k) (hr : rs[k]? = some r) (hf : fitsK (rs.take k) (nms rs) r = true) : FitsTo rs (k + 1) := fun j r' hj hr' => by
  by_cases e : j = k
  · subst e
    rw [hr] at hr'
    cases hr'
    exact hf
  · exact h j r' (by omega) hr'
theorem FitsTo.pr {rs : List Kd} : ∀ {k : Nat}, FitsTo rs k → k ≤ rs.length → PrOk (rs.take k) (nms rs)
  | 0, _, _ => prNil _
  | k + 1, h, hk => by
    have hk' : k < rs.length := by omega
    have hr : rs[k]? = some rs[k] := List.getElem?_eq_getElem hk'
    rw [List.take_add_one, hr]
    exact (FitsTo.pr (fun j r hj hr' => h j r (by omega) hr') (by omega)).snoc (h k _ (by omega) hr)
theorem baseOk_some {ks : List Kd} {r : Kd} {b : Str} (h : baseOk ks r = true) (e : r.base = some b) : ∃ rb, kfind ks b = some rb ∧ rb.heirs = true := by
  unfold baseOk at h
  rw [e] at h
  cases q : kfind ks b with
  | none => simp [q] at h
  | some rb =>
    simp only [q] at h
    exact ⟨rb, rfl, h⟩
theorem FitsTo.ok {rs : List Kd} (h : FitsTo rs rs.length) (g : ∀ r ∈ rs, RGood r) (l : rs.length ≤ 12) : RsOk rs := by
  have p := h.pr (Nat.le_refl _)
  rw [List.take_length] at p
  refine ⟨prOk_hs p (fun k hk => (g k hk).kg) l, fun r hr b hb => ?_⟩
  obtain ⟨i, hi⟩ := List.getElem?_of_mem hr
  have hf := h i r (List.getElem?_eq_some_iff.mp hi).1 hi
  simp only [fitsK, Bool.and_eq_true] at hf
  obtain ⟨rb, q1, q2⟩ := baseOk_some hf.2.1 hb
  have := kfind_app (r := rs.drop i) q1
  rw [List.take_append_drop] at this
  refine ⟨rb, this, ?_⟩
  cases e : rb.base with
  | none => rfl
  | some b' =>
    have := ((g rb (kfind_some this).1).b b' e).2.2.2
    rw [q2] at this; cases this
theorem base_in {ks : List Kd} (nd : (nms ks).Nodup) (b : Str) : decide (b ∈ (ks.filter Kd.heirs).map Kd.name) = (match kfind ks b with
    | some k' => k'.heirs
    | none => false) := by
  rw [Bool.eq_iff_iff, decide_eq_true_eq]
  constructor
  · intro h
    obtain ⟨r, hr, e⟩ := List.mem_map.mp h
    rw [List.mem_filter] at hr
    have := kfind_self nd hr.1
    rw [e] at this
    simp only [this]
    exact hr.2
  · intro h
    cases q : kfind ks b with
    | none => rw [q] at h; cases h
    | some k' =>
      rw [q] at h
      obtain ⟨h1, h2⟩ := kfind_some q
      exact List.mem_map.mpr ⟨k', List.mem_filter.mpr ⟨h1, h⟩, h2⟩
theorem tgt_in (names : List Str) (f : Fd) : inV (oV f.tgt) (names.map V.str ++ [.str "any", .non]) = tgtOk names f := by
  have key : ∀ ns : List Str, inV .non (ns.map V.str ++ [.str "any", .non]) = true := fun ns => by
    induction ns with
    | nil => rfl
    | cons a r ih =>
      rw [List.map_cons, List.cons_append]
      unfold inV
      rw [List.any_cons]
      have : ∀ l : List V, (l.any fun y => eqV y V.non) = inV .non l := fun l => rfl
      rw [this, ih, Bool.or_true]
  unfold tgtOk
  cases f.tgt with
  | none => exact key names
  | some t =>
    show inV (.str t) _ = _
    have h1 := inV_strs t names
    unfold inV at h1 ⊢
    rw [List.any_append, h1]
    by_cases e : t = "any"
    · subst e
      simp [eqV]
    · simp [eqV, e, Ne.symm e]
theorem ev_call1L {σ : L2.St} {H : Hp} {te : TE} {xs : List V} {sp : Sp} {E : XK} {z : V} (h : EvL te σ H xs) (k : ∀ H1 p, Ex H H1 → H1 p = some (.lst xs) → ∀ Q : VK, (∀ H', Ex H1 H' → Q z H') → sp [.ref p] H1 Q E) : Ev (tCall sp [] E (tCons te tNil)) σ H z := fun H1 e Q q =>
  h H1 e _ fun p H2 hn e2 h2 => k H2 p (e.trans e2) h2 Q fun H3 e3 => q H3 (e2.trans e3)
def spDb (K : PySem.W.Frag) : Sp := fun vs H Q _ => ∃ (l : Addr) (ws : List Str), vs = [.ref l] ∧ H l = some (.lst (ws.map V.str)) ∧ ws.length ≤ 1000 ∧ ∀ H', Ex H H' → Q (.bl (!nodS ws)) H'
def spKR (K : PySem.W.Frag) : Sp := fun vs H Q _ => ∃ (l : Addr) (k : Nat) (rs : List Kd) (r : Kd), vs = [.ref l, .int (k : Int)] ∧ RsAt K rs l H ∧ rs.length ≤ 12 ∧ rs[k]? = some r ∧ (∀ r ∈ rs, r.fields.length ≤ 1000) ∧ (∀ r ∈ rs, ∀ b, r.base = some b → r.heirs = false) ∧ FitsTo rs k ∧ ∀ H', Ex H H' → Q (.bl (fitsK (rs.take k) (nms rs) r)) H'
section
variable {P : Program} {w : World} {K : PySem.W.Frag} {mg : Str → Option Value} {base : Heap}
theorem ok_doubled (T : Txt P K mg) : FnOk P w K mg base CX0 1 T.f_doubled T.d_doubled P_doubled (spDb K) := by
  refine T.F_doubled.ok sc_doubled (fun vs H Q E h => ?_) (fun cdv A outer s H vs Q E hr h => ?_)
  · obtain ⟨l, ws, rfl, _⟩ := h
    rfl
  · obtain ⟨l, ws, rfl, hl, hz, kont⟩ := h
    refine ⟨_, (pss_one (ps_ret (pe_cmpR op_gt (pe_callB call_len_seq (by rfl) T.b_len (by decide +kernel) (pa_cons (pe_lc (own := [("_law_word_here", 1)]) (g := gName 1) (by rfl) sc_doubled.nd (pi_list (pv 0)) (blkOk_by (own := [("_law_word_here", 1)]) (N := N_doubled) (sc := defScope s_doubled) (by decide +kernel)) (fun _ _ _ _ _ => (pg_name (i := 1) sc_doubled.nd rfl (Or.inl rfl))) (fun _ _ _ _ _ => (pts_one (pt_cmpR op_gt (pe_cnt rfl (pv 0) (pv 1)) pe_int (nomark _)))) (fun _ _ _ _ _ => (pv 1))) pa_nil)) pe_int (nomark _)))), ?_⟩
    refine s_ret (ev_is (ev_op (ev_lenN (K := K) (el_fltSL (K := K) (g := fun x => decide ((1 : Int) < ((ws.count x : Nat) : Int))) (ev_var rfl) (sq_of hl) (by omega) (by show 1 < 2; decide) (fun _ => rfl) fun x H1 X1 hx => et_test (ev_op (fun H2 e2 Q' q => ⟨_, rfl, Or.inl ⟨rfl, _, sq_of ((X1.trans e2) _ _ hl)⟩, ⟨_, rfl, ⟨l, ws, x, rfl, rfl, sq_of ((X1.trans e2) _ _ hl), q H2 (Ex.refl H2)⟩⟩⟩) ev_c rv_I0))) ev_c rv_I0) ?_) fun H1 X1 => kont H1 X1
    rw [nod_cnt, Bool.not_not, List.length_map]
theorem ok_kind_right (T : Txt P K mg) : FnOk P w K mg base CX0 4 T.f_kind_right T.d_kind_right P_kind_right (spKR K) := by
  have G_all_fields := ok_all_fields (P := P) (w := w) (base := base) T
  have G_doubled := ok_doubled (P := P) (w := w) (base := base) T
  refine T.F_kind_right.ok sc_kind_right (fun vs H Q E h => ?_) (fun cdv A outer s H vs Q E hr h => ?_)
  · obtain ⟨l, k, rs, r, rfl, _⟩ := h
    rfl
  · obtain ⟨l, k, rs, r, rfl, hl, z12, hk, hfl, hbh, hft, kont⟩ := h
    refine ⟨_, (pss_cons (ps_set (i := 2) sc_kind_right.nd rfl (Or.inl rfl) (pe_ix ix_list (pv 0) (pv 1) (fun _ _ => rfl)))
      (pss_cons (ps_set (i := 3) sc_kind_right.nd rfl (Or.inl rfl) (pe_slice sl_list (pv 0) po_none (po_some (pv 1))))
      (pss_cons (ps_if (pt_cmpR op_in_seq (pe_dget (hu_of hr) (pv 2) pe_str (fun _ _ => rfl)) (pe_lc (own := [("_law_one", 6)]) (g := gName 6) (by rfl) sc_kind_right.nd (pi_list (pv 3)) (blkOk_by (own := [("_law_one", 6)]) (N := N_kind_right) (sc := defScope s_kind_right) (by decide +kernel)) (fun _ _ _ _ _ => (pg_name (i := 6) sc_kind_right.nd rfl (Or.inl rfl))) (fun _ _ _ _ _ => pts_nil) (fun _ _ _ _ _ => (pe_dget (hu_of hr) (pv 6) pe_str (fun _ _ => rfl)))) (by rfl)) (pss_one (ps_ret pe_bl)) pss_nil)
      (pss_cons (ps_if (PW.pt (pw_and (pt_cmpR op_notN (pe_dget (hu_of hr) (pv 2) pe_str (fun _ _ => rfl)) pe_non (nomark _)) (pw_and1 (pt_cmpR op_notIn_seq (pe_dget (hu_of hr) (pv 2) pe_str (fun _ _ => rfl)) (pe_lc (own := [("_law_one", 6)]) (g := gName 6) (by rfl) sc_kind_right.nd (pi_list (pv 3)) (blkOk_by (own := [("_law_one", 6)]) (N := N_kind_right) (sc := defScope s_kind_right) (by decide +kernel)) (fun _ _ _ _ _ => (pg_name (i := 6) sc_kind_right.nd rfl (Or.inl rfl))) (fun _ _ _ _ _ => (pts_one (pt_val (pe_dget (hu_of hr) (pv 6) pe_str (fun _ _ => rfl))))) (fun _ _ _ _ _ => (pe_dget (hu_of hr) (pv 6) pe_str (fun _ _ => rfl)))) (by rfl))))) (pss_one (ps_ret pe_bl)) pss_nil)
      (pss_cons (ps_set (i := 4) sc_kind_right.nd rfl (Or.inl rfl) (pe_call G_all_fields hr (by rfl) T.g_all_fields T.F_all_fields.kp T.B_all_fields .nil pass0 (pa_cons (pe_slice sl_list (pv 0) po_none (po_some (pe_op op_add (pv 1) pe_int))) (pa_cons (pe_dget (hu_of hr) (pv 2) pe_str (fun _ _ => rfl)) pa_nil))))
      (pss_cons (ps_if (PW.pt (pw_or (pt_cmpR op_gt (pe_callB call_len_seq (by rfl) T.b_len (by decide +kernel) (pa_cons (pv 4) pa_nil)) pe_int (nomark _)) (pw_or1 (pt_val (pe_call G_doubled (hr.mono (by decide)) (by rfl) T.g_doubled T.F_doubled.kp T.B_doubled .nil pass0 (pa_cons (pe_lc (own := [("_law_field_here", 7)]) (g := gName 7) (by rfl) sc_kind_right.nd (pi_list (pv 4)) (blkOk_by (own := [("_law_field_here", 7)]) (N := N_kind_right) (sc := defScope s_kind_right) (by decide +kernel)) (fun _ _ _ _ _ => (pg_name (i := 7) sc_kind_right.nd rfl (Or.inl rfl))) (fun _ _ _ _ _ => pts_nil) (fun _ _ _ _ _ => (pe_ix (Way.kk_ixT (K := K)) (pv 7) pe_int (fun _ _ => rfl)))) pa_nil)))))) (pss_one (ps_ret pe_bl)) pss_nil)
      (pss_cons (ps_set (i := 5) sc_kind_right.nd rfl (Or.inr rfl) (pe_op op_cat (pe_lc (own := [("_law_one", 6)]) (g := gName 6) (by rfl) sc_kind_right.nd (pi_list (pv 0)) (blkOk_by (own := [("_law_one", 6)]) (N := N_kind_right) (sc := defScope s_kind_right) (by decide +kernel)) (fun _ _ _ _ _ => (pg_name (i := 6) sc_kind_right.nd rfl (Or.inl rfl))) (fun _ _ _ _ _ => pts_nil) (fun _ _ _ _ _ => (pe_dget (hu_of hr) (pv 6) pe_str (fun _ _ => rfl)))) (pe_lst (pa_cons pe_str (pa_cons pe_non pa_nil)))))
      (pss_cons (ps_if (pt_cmpR op_gt (pe_callB call_len_seq (by rfl) T.b_len (by decide +kernel) (pa_cons (pe_lc (own := [("_law_field_here", 7)]) (g := gName 7) (by rfl) sc_kind_right.nd (pi_list (pv 4)) (blkOk_by (own := [("_law_field_here", 7)]) (N := N_kind_right) (sc := defScope s_kind_right) (by decide +kernel)) (fun _ _ _ _ _ => (pg_name (i := 7) sc_kind_right.nd rfl (Or.inl rfl))) (fun _ _ _ _ _ => (pts_one (pt_cmpR (Way.kk_notin (K := K)) (pe_ix (Way.kk_ixT (K := K)) (pv 7) pe_int (fun _ _ => rfl)) (pv 5) (by rfl)))) (fun _ _ _ _ _ => (pv 7))) pa_nil)) pe_int (nomark _)) (pss_one (ps_ret pe_bl)) pss_nil)
      (pss_cons (ps_if (pt_cmpR op_isN (pe_dget (hu_of hr) (pv 2) pe_str (fun _ _ => rfl)) pe_non (nomark _)) (pss_one (ps_ret pe_bl)) pss_nil)
      (pss_one (ps_ret (pe_and (pe_cmpR op_eq (pe_callB call_len_seq (by rfl) T.b_len (by decide +kernel) (pa_cons (pe_lc (own := [("_law_field_here", 7)]) (g := gName 7) (by rfl) sc_kind_right.nd (pi_list (pv 4)) (blkOk_by (own := [("_law_field_here", 7)]) (N := N_kind_right) (sc := defScope s_kind_right) (by decide +kernel)) (fun _ _ _ _ _ => (pg_name (i := 7) sc_kind_right.nd rfl (Or.inl rfl))) (fun _ _ _ _ _ => (pts_one (pt_cmpR op_ne (pe_ix (Way.kk_ixT (K := K)) (pv 7) pe_int (fun _ _ => rfl)) pe_str (nomark _)))) (fun _ _ _ _ _ => (pv 7))) pa_nil)) pe_int (nomark _)) (pe_one (pe_cmpR op_in_seq (pe_dget (hu_of hr) (pv 2) pe_str (fun _ _ => rfl)) (pe_lc (own := [("_law_field_here", 7)]) (g := gName 7) (by rfl) sc_kind_right.nd (pi_list (pv 4)) (blkOk_by (own := [("_law_field_here", 7)]) (N := N_kind_right) (sc := defScope s_kind_right) (by decide +kernel)) (fun _ _ _ _ _ => (pg_name (i := 7) sc_kind_right.nd rfl (Or.inl rfl))) (fun _ _ _ _ _ => pts_nil) (fun _ _ _ _ _ => (pe_ix (Way.kk_ixT (K := K)) (pv 7) pe_int (fun _ _ => rfl)))) (by rfl))))))))))))))), ?_⟩
    have hkl : k < rs.length := (List.getElem?_eq_some_iff.mp hk).1
    have pr := hft.pr (by omega)
    obtain ⟨l', xs, e, hl1, hlx⟩ := id hl
    cases e
    obtain ⟨v, hv, hrow⟩ := pr_at' hlx hk
    refine q_asg (v := v) (ev_op (ev_var rfl) (ev_var rfl) (rv_ixL (K := K) (sq_of hl1) (at_of (j := k) rfl hv))) fun H1 X1 => ?_
    have hl2 := hl.mono rowAt_mono X1
    have hrow1 := rowAt_mono _ _ _ _ X1 hrow
    refine n_asg (P := LAt (RowAt K) (rs.take k)) (en_take (K := K) rowAt_mono (ev_var rfl) (ev_var rfl) hl2) fun el H2 hel X2 he => ?_
    have lt12 : (rs.take k).length ≤ 12 := by rw [List.length_take]; omega
    have hrow2 := rowAt_mono _ _ _ _ X2 hrow1
    have X12 := X1.trans X2
    have ret0 : fitsK (rs.take k) (nms rs) r = false → ∀ (σ : L2.St) (Hx : Hp) (N : L2.St → Hp → Prop), Ex H Hx → tRet (tC (.bl false)) { nx := N, rt := Q } σ Hx := fun h σ Hx N X => s_ret (v := .bl (fitsK (rs.take k) (nms rs) r)) (ev_is ev_c (by rw [h])) fun H2 X2 => kont H2 (X.trans X2)
    have emn : ∀ ks : List Kd, (ks.map fun r : Kd => V.str r.name) = (ks.map Kd.name).map V.str := fun ks => by rw [List.map_map]; rfl
    refine q_when (b := decide (r.name ∈ (rs.take k).map Kd.name)) (et_is (et_test (ev_opL (xs := (rs.take k).map fun r : Kd => V.str r.name) (ev_name (ev_var rfl) hrow2) (el_mapL (K := K) (α := Kd) (P := RowAt K) (S := rs.take k) (w := fun r : Kd => V.str r.name) rowAt_mono (ev_var rfl) he (by omega) (fun _ => rfl) fun x r' H3 X3 hr' hx => ev_name (ev_var rfl) hx) fun q H3 h3 X3 => rv_inL (K := K) (neg := false) (sq_of h3) rfl (by rw [emn]; exact Way.flat_strs _))) (by show inV (.str r.name) _ = _; rw [emn, inV_strs])) (fun q H3 X3 => ?_) (fun q3 H3 X3 => ?_)
    · exact ret0 (by simp only [fitsK, q]; rfl) _ _ _ (X12.trans X3)
    have n3 : r.name ∉ (rs.take k).map Kd.name := of_decide_eq_false q3
    have he3 := he.mono rowAt_mono X3
    have hrow3 := rowAt_mono _ _ _ _ X3 hrow2
    have X13 := X12.trans X3
    refine q_when (b := !baseOk (rs.take k) r) ?_ (fun q H4 X4 => ?_) (fun q4 H4 X4 => ?_)
    · unfold baseOk
      cases hb : r.base with
      | none => exact et_is (et_and (a := false) (b := true) (et_is (et_test (ev_op (ev_base (ev_var rfl) hrow3) ev_c rv_notN)) (by rw [hb]; rfl)) fun z => nomatch z) rfl
      | some b =>
        have eb : ∀ Hx, Ex H3 Hx → Ev (tDGet (tVar 2) (tC (.str "base"))) [some (.ref l), some (.int (k : Int)), some v, some (.ref el), none, none, none, none] Hx (.str b) := fun Hx X => ev_is (ev_base (ev_var rfl) (rowAt_mono _ _ _ _ X hrow3)) (by rw [hb]; rfl)
        refine et_is (et_and (a := true) (et_is (et_test (ev_op (eb H3 (Ex.refl H3)) ev_c rv_notN)) rfl) fun _ => et_test (ev_opL (xs := ((rs.take k).filter Kd.heirs).map fun r : Kd => V.str r.name) (eb H3 (Ex.refl H3)) (el_fmL (K := K) (α := Kd) (P := RowAt K) (S := rs.take k) (g := Kd.heirs) (w := fun r : Kd => V.str r.name) rowAt_mono (ev_var rfl) he3 (by omega) (fun _ => rfl) (fun x r' H4 X4 hr' hx => et_B (ev_heirs (ev_var rfl) hx)) fun x r' H4 X4 hr' hx => ev_name (ev_var rfl) hx) fun q H4 h4 X4 => rv_inL (K := K) (neg := true) (sq_of h4) rfl (by rw [emn]; exact Way.flat_strs _))) ?_
        show (true && !inV (.str b) _) = _
        rw [emn, inV_strs, base_in pr.nd, Bool.true_and]
        all_goals first | (simp only []; done) | (simp only []; cases kfind (rs.take k) b <;> rfl) | (cases kfind (rs.take k) b <;> rfl) | rfl
    · exact ret0 (by
        have : baseOk (rs.take k) r = false := by simpa using q
        simp [fitsK, this]) _ _ _ (X13.trans X4)
    have q4' : baseOk (rs.take k) r = true := by simpa using q4
    have X14 := X13.trans X4
    have tk1 : rs.take (k + 1) = rs.take k ++ [r] := by rw [List.take_add_one, hk]; rfl
    have hbk : ∀ b, r.base = some b → ∃ k', kfind (rs.take k) b = some k' := fun b hb => let ⟨rb, h1, _⟩ := baseOk_some q4' hb; ⟨rb, h1⟩
    have hkf : kfind (rs.take (k + 1)) r.name = some r := by
      rw [tk1]
      unfold kfind
      rw [List.find?_append]
      have : List.find? (fun k => decide (k.name = r.name)) (rs.take k) = none := by
        rw [List.find?_eq_none]
        intro x hx e
        exact n3 (by rw [← of_decide_eq_true e]; exact List.mem_map_of_mem hx)
      rw [this]
      simp
    have hbo : bOk (rs.take (k + 1)) r := fun b hb => by
      obtain ⟨rb, h1, h2⟩ := baseOk_some q4' hb
      refine ⟨rb, by rw [tk1]; exact kfind_app h1, ?_⟩
      cases e : rb.base with
      | none => rfl
      | some b' =>
        have := hbh rb (List.mem_of_mem_take (kfind_some h1).1) b' e
        rw [h2] at this; cases this
    have eg : gath (rs.take (k + 1)) r = gath (rs.take k) r := by rw [tk1]; exact gath_app hbk
    have hl4 := hl.mono rowAt_mono X14
    have hrow4 := rowAt_mono _ _ _ _ X4 hrow3
    refine q_any ?_
    refine (en_take (K := K) (k := k + 1) rowAt_mono (ev_var rfl) (ev_op (ev_var rfl) ev_c rv_I0) hl4 : EvN _ _ H4 _) H4 (Ex.refl H4) _ fun p5 H5 hp5 X5 h5 => ?_
    refine (ev_name (ev_var rfl) (rowAt_mono _ _ _ _ X5 hrow4) : Ev _ _ H5 _) H5 (Ex.refl H5) _ fun H6 X6 => ?_
    refine ⟨p5, r.name, rs.take (k + 1), r, rfl, h5.mono rowAt_mono X6, by rw [List.length_take]; omega, hkf, hbo, fun k' hk' => hfl k' (List.mem_of_mem_take hk'), fun fp H7 hfp X7 hfs => ?_⟩
    rw [eg] at hfs
    have X47 := X5.trans (X6.trans X7)
    have X17 := X14.trans X47
    have gl : (gath (rs.take k) r).length ≤ 2000 := by
      unfold gath baseFs
      rw [List.length_append]
      have h1 := hfl r (List.mem_of_getElem? hk)
      cases e : r.base with
      | none => simp; omega
      | some b =>
        obtain ⟨rb, h2⟩ := hbk b e
        have := hfl rb (List.mem_of_mem_take (kfind_some h2).1)
        simp only [h2]
        omega
    generalize hgs : gath (rs.take k) r = gs at hfs gl
    have emf : (gs.map fun f : Fd => V.str f.name) = (gs.map Fd.name).map V.str := by rw [List.map_map]; rfl
    refine q_when (b := !fAF (.seq true (gs.map .fld)) 10) ?_ (fun q H8 X8 => ?_) (fun q5 H8 X8 => ?_)
    · have e1 : (!fAF (.seq true (gs.map .fld)) 10) = (decide ((10 : Int) < (gs.length : Int)) || !nodS (gs.map Fd.name)) := by
        have e2 : (gs.map El.fld).all isFld = true := List.all_eq_true.mpr fun e he => by
          obtain ⟨f, _, rfl⟩ := List.mem_map.mp he
          rfl
        have e3 : (gs.map El.fld).map nmE = gs.map Fd.name := by rw [List.map_map]; rfl
        simp only [fAF, e2, e3, List.length_map, Bool.true_and, Bool.not_and]
        congr 1
        rw [Bool.eq_iff_iff]
        simp
        omega
      rw [e1]
      refine et_or (et_test (ev_op (ev_lenLA (K := K) (ev_var rfl) hfs) ev_c rv_I0)) fun qlen => ?_
      have hlen : gs.length ≤ 10 := by have := of_decide_eq_false qlen; omega
      exact et_B (ev_call1L (xs := gs.map fun f : Fd => V.str f.name) (el_mapL (K := K) (α := Fd) (P := FtAt K) (S := gs) (w := fun f : Fd => V.str f.name) ftAt_mono (ev_var rfl) hfs (by omega) (fun _ => rfl) fun x f H9 X9 hf hx => ev_f0 (ev_var rfl) hx) fun H9 p9 X9 h9 Q' q' => ⟨p9, gs.map Fd.name, rfl, by rw [h9, emf], by rw [List.length_map]; omega, fun H10 X10 => q' H10 X10⟩)
    · exact ret0 (by
        have : fAF (.seq true (gs.map .fld)) 10 = false := by simpa using q
        simp [fitsK, hgs, this]) _ _ _ (X17.trans X8)
    have q5' : fAF (.seq true (gs.map .fld)) 10 = true := by simpa using q5
    have hlen : gs.length ≤ 10 := by
      have := q5'
      simp only [fAF, Bool.and_eq_true, List.length_map, decide_eq_true_eq] at this
      exact this.1
    have X18 := X17.trans X8
    have hfs8 := hfs.mono ftAt_mono X8
    have hl8 := hl.mono rowAt_mono X18
    refine q_asgL (el_catL (xs := rs.map fun r : Kd => V.str r.name) (ys := [.str "any", .non]) (el_mapL (K := K) (α := Kd) (P := RowAt K) (S := rs) (w := fun r : Kd => V.str r.name) rowAt_mono (ev_var rfl) hl8 (by omega) (fun _ => rfl) fun x r' H9 X9 hr' hx => ev_name (ev_var rfl) hx) (el_lst (ea_cons ev_c (ea_cons ev_c ea_nil)) (Nat.le_of_ble_eq_true rfl)) (by rw [List.length_map]; show _ + 2 ≤ _; omega)) fun nl H9 hnl X9 h9 => ?_
    rw [emn] at h9
    have hfs9 := hfs8.mono ftAt_mono X9
    have X19 := X18.trans X9
    refine q_when (b := !gs.all (tgtOk (nms rs))) ?_ (fun q H10 X10 => ?_) (fun q6 H10 X10 => ?_)
    · have e1 : (!gs.all (tgtOk (nms rs))) = decide ((0 : Int) < ((gs.filter fun f : Fd => !tgtOk (nms rs) f).length : Int)) := by
        rw [Bool.eq_iff_iff, Bool.not_eq_true', List.all_eq_false, decide_eq_true_eq]
        constructor
        · rintro ⟨f, hf, hn⟩
          have := List.length_pos_of_mem (List.mem_filter (p := fun f : Fd => !tgtOk (nms rs) f) |>.mpr ⟨hf, by simpa using hn⟩)
          omega
        · intro h
          cases e : gs.filter fun f : Fd => !tgtOk (nms rs) f with
          | nil => rw [e] at h; exact absurd h (by decide)
          | cons f _ =>
            have hf : f ∈ gs.filter fun f : Fd => !tgtOk (nms rs) f := by rw [e]; exact List.mem_cons_self ..
            rw [List.mem_filter] at hf
            exact ⟨f, hf.1, by simpa using hf.2⟩
      rw [e1]
      refine et_test (ev_op (ev_lenFlt (K := K) (α := Fd) (P := FtAt K) (S := gs) (g := fun f : Fd => !tgtOk (nms rs) f) ftAt_mono (ev_var rfl) hfs9 (by omega) (by show 7 < 8; decide) (fun _ => rfl) fun x f H10 X10 hf hx => et_is (et_test (ev_op (ev_f2 (ev_var rfl) hx) (ev_var rfl) (rv_inL (K := K) (neg := true) (sq_of (X10 _ _ h9)) (by cases f.tgt <;> rfl) (by rw [List.all_append, Way.flat_strs]; rfl)))) (by show (!inV (oV f.tgt) _) = _; rw [tgt_in]; rfl)) ev_c rv_I0)
    · exact ret0 (by
        have : gs.all (tgtOk (nms rs)) = false := by simpa using q
        simp [fitsK, hgs, this]) _ _ _ (X19.trans X10)
    have q6' : gs.all (tgtOk (nms rs)) = true := by simpa using q6
    have fin : fitsK (rs.take k) (nms rs) r = keyOk gs r := by
      have : decide (r.name ∈ (rs.take k).map Kd.name) = false := q3
      simp only [fitsK, hgs, this, q4', q5', q6']; rfl
    rw [fin] at kont
    have X110 := X19.trans X10
    have hrow10 := rowAt_mono _ _ _ _ (X47.trans (X8.trans (X9.trans X10))) hrow4
    have hfs10 := hfs9.mono ftAt_mono X10
    refine q_when (b := decide (r.key = none)) (et_is (et_test (ev_op (ev_key (ev_var rfl) hrow10) ev_c rv_isN)) (by cases r.key <;> rfl)) (fun q H11 X11 => ?_) (fun q7 H11 X11 => ?_)
    · have e : r.key = none := of_decide_eq_true q
      exact s_ret (v := .bl (keyOk gs r)) (ev_is ev_c (by unfold keyOk; rw [e])) fun H12 X12 => kont H12 (X110.trans (X11.trans X12))
    have hky : ∃ y, r.key = some y := by
      cases e : r.key with
      | none => exact absurd e (of_decide_eq_false q7)
      | some y => exact ⟨y, rfl⟩
    obtain ⟨y, hy⟩ := hky
    have hrow11 := rowAt_mono _ _ _ _ X11 hrow10
    have hfs11 := hfs10.mono ftAt_mono X11
    have ekey : ∀ Hx, Ex H11 Hx → Ev (tDGet (tVar 2) (tC (.str "key"))) [some (.ref l), some (.int (k : Int)), some v, some (.ref el), some (.ref fp), some (.ref nl), none, none] Hx (.str y) := fun Hx X => ev_is (ev_key (ev_var rfl) (rowAt_mono _ _ _ _ X hrow11)) (by rw [hy]; rfl)
    refine s_ret (v := .bl (keyOk gs r)) (ev_is (ev_andV (ev_op (ev_lenFlt (K := K) (α := Fd) (P := FtAt K) (S := gs) (g := fun f : Fd => !decide (f.mode = "mark")) ftAt_mono (ev_var rfl) hfs11 (by omega) (by show 7 < 8; decide) (fun _ => rfl) fun x f H12 X12 hf hx => et_is (et_test (ev_op (ev_f1 (ev_var rfl) hx) ev_c (rv_ne rfl))) (by simp)) ev_c (rv_eq rfl)) fun _ => ev_opL (xs := gs.map fun f : Fd => V.str f.name) (ekey H11 (Ex.refl H11)) (el_mapL (K := K) (α := Fd) (P := FtAt K) (S := gs) (w := fun f : Fd => V.str f.name) ftAt_mono (ev_var rfl) hfs11 (by omega) (fun _ => rfl) fun x f H12 X12 hf hx => ev_f0 (ev_var rfl) hx) fun q H12 h12 X12 => rv_inL (K := K) (neg := false) (sq_of h12) rfl (by rw [emf]; exact Way.flat_strs _)) ?_) fun H12 X12 => kont H12 (X110.trans (X11.trans X12))
    unfold keyOk
    rw [hy]
    show V.bl (_ && inV (.str y) (gs.map fun f : Fd => V.str f.name)) = _
    rw [emf, inV_strs]
    congr 2
    rw [Bool.eq_iff_iff, decide_eq_true_eq, List.all_eq_true]
    constructor
    · intro h f hf
      have h2 := V.int.inj h
      apply Classical.byContradiction
      intro ne
      have := List.length_pos_of_mem (List.mem_filter (p := fun f : Fd => !decide (f.mode = "mark")) |>.mpr ⟨hf, by simpa using ne⟩)
      omega
    · intro h
      have : (gs.filter fun f : Fd => !decide (f.mode = "mark")) = [] := by
        rw [List.filter_eq_nil_iff]
        intro f hf
        simpa using h f hf
      rw [this]; rfl
end
end K03

namespace K03
open PySem L2 Way Evl
section
variable {K : PySem.W.Frag} {σ : L2.St} {H : Hp} {te : TE} {r : Kd}
theorem ev_rkX {f : Str} {u : V} (h : EvX te σ H (RowAt K r)) (hv : ∀ o, valV (kdK r o) (.inr f) = some u) : Ev (tDGet te (tC (.str f))) σ H u := fun H1 e Q q =>
  h H1 e _ fun v H2 e2 hr => by
    obtain ⟨a, o, xs, rfl, h1, _⟩ := hr
    exact ⟨a, u, rfl, by have := DGet.k (k := .inr f) h1; rw [hv o] at this; exact this, q H2 e2⟩
theorem ex_row {l : Addr} {n : Str} {rs : List Kd} {tl tn : TE} {E : XK} (h1 : Ev tl σ H (.ref l)) (h2 : Ev tn σ H (.str n)) (hl : RsAt K rs l H) (hz : rs.length ≤ 100) (hf : kfind rs n = some r) : EvX (tCall (spRow K) [] E (tCons tl (tCons tn tNil))) σ H (RowAt K r) := fun H1 e Q q =>
  h1 H1 e _ fun H2 e2 => h2 H2 (e.trans e2) _ fun H3 e3 => ⟨l, n, rs, r, rfl, hl.mono rowAt_mono ((e.trans e2).trans e3), hz, hf, fun v H4 e4 h4 => q v H4 ((e2.trans e3).trans e4) h4⟩
end
theorem in_root {ks : List Kd} {dr : PyData} (h : inNames ks dr = false) : rootOk ks dr = false := by
  cases dr with
  | str y =>
    have hy : y ∉ nms ks := of_decide_eq_false h
    unfold rootOk
    have : (kfind ks y).isSome = false := by rw [kfind_mem]; exact decide_eq_false hy
    have e0 : kfind ks y = none := Option.not_isSome_iff_eq_none.mp (by rw [this]; decide)
    simp only [e0]
  | _ => rfl
def spDue (K : PySem.W.Frag) : Sp := fun vs H Q _ => ∃ (l : Addr) (rv : V) (dr : PyData) (rs : List Kd), vs = [.ref l, rv] ∧ RsAt K rs l H ∧ (∀ r ∈ rs, RGood r) ∧ 1 ≤ rs.length ∧ rs.length ≤ 12 ∧ PV K H rv dr ∧ ∀ p H', H p = none → Ex H H' → H' p = some (.lst (resL rs rv dr (hres rs dr))) → Q (.ref p) H'
section
variable {P : Program} {w : World} {K : PySem.W.Frag} {mg : Str → Option Value} {base : Heap}
theorem ok_due (T : Txt P K mg) : FnOk P w K mg base CX0 6 T.f_due T.d_due P_due (spDue K) := by
  have G_kind_right := ok_kind_right (P := P) (w := w) (base := base) T
  have G_leads_far := ok_leads_far (P := P) (w := w) (base := base) T
  have G_row := ok_row (P := P) (w := w) (base := base) T
  refine T.F_due.ok sc_due (fun vs H Q E h => ?_) (fun cdv A outer s H vs Q E hr h => ?_)
  · obtain ⟨l, rv, dr, rs, rfl, _⟩ := h
    rfl
  · obtain ⟨l, rv, dr, rs, rfl, hl, hg, l1, l12, pr, kont⟩ := h
    refine ⟨_, (pss_cons (ps_for PassesOwn.never rfl (pi_range1 (by rfl) T.b_range (pa_cons (pe_callB call_len_seq (by rfl) T.b_len (by decide +kernel) (pa_cons (pv 0) pa_nil)) pa_nil)) (pg_name (i := 2) sc_due.nd rfl (Or.inl rfl)) (pss_one (ps_if (pt_not (pt_val (pe_call G_kind_right (hr.mono (by decide)) (by rfl) T.g_kind_right T.F_kind_right.kp T.B_kind_right .nil pass0 (pa_cons (pv 0) (pa_cons (pv 2) pa_nil))))) (pss_one (ps_ret (pe_lst (pa_cons pe_str (pa_cons (pe_dget (hu_of hr) (pe_ix ix_list (pv 0) (pv 2) (fun _ _ => rfl)) pe_str (fun _ _ => rfl)) pa_nil))))) pss_nil)))
      (pss_cons (ps_for PassesOwn.never rfl (pi_list (pv 0)) (pg_name (i := 3) sc_due.nd rfl (Or.inl rfl)) (pss_one (ps_if (pt_val (pe_dget (hu_of hr) (pv 3) pe_str (fun _ _ => rfl))) (pss_cons (ps_set (i := 4) sc_due.nd rfl (Or.inr rfl) (pe_call G_leads_far hr (by rfl) T.g_leads_far T.F_leads_far.kp T.B_leads_far .nil pass0 (pa_cons (pv 0) (pa_cons (pe_dget (hu_of hr) (pv 3) pe_str (fun _ _ => rfl)) pa_nil))))
      (pss_one (ps_if (PW.pt (pw_or (pt_cmpR op_in_seq (pe_dget (hu_of hr) (pv 3) pe_str (fun _ _ => rfl)) (pv 4) (by rfl)) (pw_or1 (pt_cmpR op_gt (pe_callB call_len_seq (by rfl) T.b_len (by decide +kernel) (pa_cons (pe_lc (own := [("_law_one", 5)]) (g := gName 5) (by rfl) sc_due.nd (pi_list (pv 0)) (blkOk_by (own := [("_law_one", 5)]) (N := N_due) (sc := defScope s_due) (by decide +kernel)) (fun _ _ _ _ _ => (pg_name (i := 5) sc_due.nd rfl (Or.inl rfl))) (fun _ _ _ _ _ => (pts_one (PW.pt (pw_and (pt_val (pe_dget (hu_of hr) (pv 5) pe_str (fun _ _ => rfl))) (pw_and1 (pt_cmpR (Way.kk_in (K := K)) (pe_dget (hu_of hr) (pv 5) pe_str (fun _ _ => rfl)) (pv 4) (by rfl))))))) (fun _ _ _ _ _ => (pv 5))) pa_nil)) pe_int (nomark _))))) (pss_one (ps_ret (pe_lst (pa_cons pe_str (pa_cons (pe_dget (hu_of hr) (pv 3) pe_str (fun _ _ => rfl)) pa_nil))))) pss_nil))) pss_nil)))
      (pss_cons (ps_if (PW.pt (pw_or (pt_not (pt_val (pe_callB call_isi (by rfl) T.b_isinstance (by decide +kernel) (pa_cons (pv 1) (pa_cons (pe_bltn (v := .ty "str") (by rfl) T.b_str (by decide +kernel) rfl) pa_nil))))) (pw_or1 (pt_cmpR op_notIn_seq (pv 1) (pe_lc (own := [("_law_row_here", 3)]) (g := gName 3) (by rfl) sc_due.nd (pi_list (pv 0)) (blkOk_by (own := [("_law_row_here", 3)]) (N := N_due) (sc := defScope s_due) (by decide +kernel)) (fun _ _ _ _ _ => (pg_name (i := 3) sc_due.nd rfl (Or.inl rfl))) (fun _ _ _ _ _ => pts_nil) (fun _ _ _ _ _ => (pe_dget (hu_of hr) (pv 3) pe_str (fun _ _ => rfl)))) (by rfl))))) (pss_one (ps_ret (pe_lst (pa_cons pe_str (pa_cons (pv 1) pa_nil))))) pss_nil)
      (pss_cons (ps_if (pt_cmpR op_notN (pe_dget (hu_of hr) (pe_call G_row (hr.mono (by decide)) (by rfl) T.g_row T.F_row.kp T.B_row .nil pass0 (pa_cons (pv 0) (pa_cons (pv 1) pa_nil))) pe_str (fun _ _ => rfl)) pe_non (nomark _)) (pss_one (ps_ret (pe_lst (pa_cons pe_str (pa_cons (pv 1) pa_nil))))) pss_nil)
      (pss_one (ps_ret (pe_lst pa_nil))))))), ?_⟩
    obtain ⟨l', xs, e, hl1, hlx⟩ := id hl
    cases e
    have lx : xs.length = rs.length := Paired.length hlx
    have hfl : ∀ r ∈ rs, r.fields.length ≤ 1000 := fun r hr' => by have := (hg r hr').l; omega
    have hbh : ∀ r ∈ rs, ∀ b, r.base = some b → r.heirs = false := fun r hr' b hb => ((hg r hr').b b hb).2.2.2
    refine q_forR1 (n := (rs.length : Int)) (ea_cons (ev_lenLA (K := K) (ev_var rfl) hl) ea_nil) (by omega) (fun i σ' H' => ∃ v2 : Option V, σ' = [some (.ref l), some rv, v2, none, none, none] ∧ Ex H H' ∧ FitsTo rs i) (fun H1 X1 => ⟨none, rfl, X1, fun j r hj => absurd hj (Nat.not_lt_zero _)⟩) ?_ ?_
    · rintro i σ' H1 hi ⟨v2, rfl, X1, hft⟩
      have hil : i < rs.length := by omega
      have hri : rs[i]? = some rs[i] := List.getElem?_eq_getElem hil
      obtain ⟨v, hv, hrow⟩ := pr_at' hlx hri
      refine s_when (b := !fitsK (rs.take i) (nms rs) rs[i]) (et_not (et_B (ev_call (ea_cons (ev_var rfl) (ea_cons (ev_var rfl) ea_nil)) fun H2 X2 Q' q' E' => ⟨l, i, rs, rs[i], rfl, hl.mono rowAt_mono (X1.trans X2), l12, hri, hfl, hbh, hft, fun H3 e3 => q' H3 e3⟩))) (fun q H2 X2 => ?_) (fun q H2 X2 => ?_)
      · have qf : fitsK (rs.take i) (nms rs) rs[i] = false := by simpa using q
        have ef : fb (nms rs) [] rs = some rs[i].name := fb_take (ks := rs) (l := rs) (e := []) (i := i) (fun j k' hj hk' => by rw [List.nil_append]; exact hft j k' hj hk') hri (by rw [List.nil_append]; exact qf)
        have er : hres rs dr = .kind rs[i].name := by unfold hres; rw [ef]
        have X12 := X1.trans X2
        refine s_retL (el_lst (ea_cons ev_c (ea_cons (ev_name (ev_op (ev_var rfl) (ev_var rfl) (rv_ixL (K := K) (sq_of (X12 _ _ hl1)) (at_of (j := i) rfl hv))) (rowAt_mono _ _ _ _ X12 hrow)) ea_nil)) (Nat.le_of_ble_eq_true rfl)) fun p H3 hp X3 h3 => kont p H3 (fresh_back X12 hp) (X12.trans X3) (by rw [er]; exact h3)
      · exact ⟨_, rfl, X1.trans X2, hft.succ hri (by simpa using q)⟩
    · rintro σ' H1 ⟨v2, rfl, X1, hft⟩
      have e : ((rs.length : Int)).toNat = rs.length := by omega
      rw [e] at hft
      have hok := hft.ok hg l12
      have nd := hok.ok.nd
      have efb : fb (nms rs) [] rs = none := fb_none fun j k' hk' => by
        rw [List.nil_append]
        exact hft j k' (List.getElem?_eq_some_iff.mp hk').1 hk'
      refine q_forLn (K := K) (ev_var rfl) (sq_of (X1 _ _ hl1)) (fun i σ' H' => ∃ v3 v4 : Option V, σ' = [some (.ref l), some rv, v2, v3, v4, none] ∧ Ex H H' ∧ ∀ (j : Nat) (r : Kd), j < i → rs[j]? = some r → (r.frozen && wrongK rs r.name) = false) (fun H2 X2 => ⟨none, none, rfl, X1.trans X2, fun j r hj => absurd hj (Nat.not_lt_zero _)⟩) (fun i σ' H' _ ⟨_, _, _, z, _⟩ => sq_of (z _ _ hl1)) ?_ ?_
      · rintro i x σ' H2 hx ⟨v3, v4, rfl, X2, hw⟩
        obtain ⟨r, hr', hrow⟩ := pr_at hlx hx
        have hrm := List.mem_of_getElem? hr'
        have hrow2 := rowAt_mono _ _ _ _ X2 hrow
        refine s_when (b := r.frozen) (et_B (ev_frozen (ev_var rfl) hrow2)) (fun q H3 X3 => ?_) (fun q H3 X3 => ?_)
        · have hl3 := hl.mono rowAt_mono (X2.trans X3)
          have hrow3 := rowAt_mono _ _ _ _ X3 hrow2
          refine q_asgL (el_ld (K := K) (f := farK) (ev_var rfl) (ev_name (ev_var rfl) hrow3) hl3 hok (List.mem_map_of_mem hrm)) fun fo H4 hfo X4 h4 => ?_
          have hl4 := hl3.mono rowAt_mono X4
          have hrow4 := rowAt_mono _ _ _ _ X4 hrow3
          have X04 := X2.trans (X3.trans X4)
          refine s_when (b := wrongK rs r.name) ?_ (fun q2 H5 X5 => ?_) (fun q2 H5 X5 => ?_)
          · rw [← wrong_eq nd]
            refine et_or (et_is (et_test (ev_op (ev_name (ev_var rfl) hrow4) (ev_var rfl) (rv_inL (K := K) (neg := false) (sq_of h4) rfl (Way.flat_strs _)))) (by show inV (.str r.name) ((farK rs r.name).map V.str) = _; rw [inV_strs])) fun _ => et_test (ev_op (ev_lenFlt (K := K) (α := Kd) (g := fun o : Kd => o.heirs && decide (o.name ∈ farK rs r.name)) rowAt_mono (ev_var rfl) hl4 (by omega) (by show 5 < 6; decide) (fun _ => rfl) fun x o H8 X8 ho hx' => et_and (et_B (ev_heirs (ev_var rfl) hx')) fun _ => et_is (et_test (ev_op (ev_name (ev_var rfl) hx') (ev_var rfl) (rv_inL (K := K) (neg := false) (sq_of (X8 _ _ h4)) rfl (Way.flat_strs _)))) (by show inV (.str o.name) ((farK rs r.name).map V.str) = _; rw [inV_strs])) ev_c rv_I0)
          · have efw := wrong_first (ks := rs) hw hr' (by rw [q, q2]; rfl)
            have er : hres rs dr = .kind r.name := by unfold hres; rw [efb]; simp only [efw]
            refine s_retL (el_lst (ea_cons ev_c (ea_cons (ev_name (ev_var rfl) (rowAt_mono _ _ _ _ X5 hrow4)) ea_nil)) (Nat.le_of_ble_eq_true rfl)) fun p H6 hp X6 h6 => kont p H6 (fresh_back (X04.trans X5) hp) ((X04.trans X5).trans X6) (by rw [er]; exact h6)
          · refine ⟨_, _, rfl, X04.trans X5, fun j r' hj hr2 => ?_⟩
            by_cases e : j = i
            · subst e
              rw [hr'] at hr2
              cases hr2
              rw [q2, Bool.and_false]
            · exact hw j r' (by omega) hr2
        · refine ⟨_, _, rfl, X2.trans X3, fun j r' hj hr2 => ?_⟩
          by_cases e : j = i
          · subst e
            rw [hr'] at hr2
            cases hr2
            rw [q]; rfl
          · exact hw j r' (by omega) hr2
      · rintro σ' H2 ⟨v3, v4, rfl, X2, hw⟩
        rw [lx] at hw
        have efw : firstWrong rs rs = none := wrong_none fun j k' hk' => hw j k' (List.getElem?_eq_some_iff.mp hk').1 hk'
        have er : hres rs dr = if rootOk rs dr = true then .fine else .root := by unfold hres; rw [efb]; simp only [efw]
        have hl2 := hl.mono rowAt_mono X2
        have pr2 := pr.mono X2
        have emn : (rs.map fun r : Kd => V.str r.name) = (nms rs).map V.str := by unfold nms; rw [List.map_map]; rfl
        have rootW : rootOk rs dr = false → ∀ (σ : L2.St) (Hx : Hp) (N : L2.St → Hp → Prop), σ[1]? = some (some rv) → Ex H Hx → tRet (tLst (tCons (tC (.str "bad")) (tCons (tVar 1) tNil))) { nx := N, rt := Q } σ Hx := fun h σ Hx N hσ X => s_retL (el_lst (ea_cons ev_c (ea_cons (ev_var hσ) ea_nil)) (Nat.le_of_ble_eq_true rfl)) fun p H6 hp X6 h6 => kont p H6 (fresh_back X hp) (X.trans X6) (by rw [er, h]; exact h6)
        refine q_when (b := !inNames rs dr) ?_ (fun q H3 X3 => ?_) (fun q H3 X3 => ?_)
        · cases dr with
          | str x =>
            obtain ⟨rfl, _⟩ := pv_str pr2
            exact et_is (et_or (a := false) (et_not (a := true) (et_B (ev_isd (ev_var rfl) pr2 kd_str))) fun _ => et_test (ev_opL (xs := rs.map fun r : Kd => V.str r.name) (ev_var rfl) (el_mapL (K := K) (α := Kd) (P := RowAt K) (S := rs) (w := fun r : Kd => V.str r.name) rowAt_mono (ev_var rfl) hl2 (by omega) (fun _ => rfl) fun x r' H3 X3 hr' hx => ev_name (ev_var rfl) hx) fun q H3 h3 X3 => rv_inL (K := K) (neg := true) (sq_of h3) rfl (by rw [emn]; exact Way.flat_strs _))) (by show (false || !inV (.str x) _) = _; rw [emn, inV_strs]; rfl)
          | _ => exact et_is (et_or (a := true) (b := true) (et_not (a := false) (et_B (ev_isd (ev_var rfl) pr2 rfl))) fun z => nomatch z) rfl
        · exact rootW (in_root (by simpa using q)) _ _ _ rfl (X2.trans X3)
        · have qn : inNames rs dr = true := by simpa using q
          cases dr with
          | str x =>
            obtain ⟨rfl, _⟩ := pv_str pr2
            obtain ⟨k, hk⟩ := kfind_in (of_decide_eq_true qn)
            have X23 := X2.trans X3
            have eroot : rootOk rs (.str x) = k.key.isNone := by unfold rootOk; simp only [hk]
            refine q_when (b := !k.key.isNone) (et_is (et_test (ev_op (ev_rkX (K := K) (r := k) (ex_row (K := K) (ev_var rfl) (ev_var rfl) (hl.mono rowAt_mono X23) (by omega) hk) fun _ => rk_key) ev_c rv_notN)) (by cases k.key <;> rfl)) (fun q2 H4 X4 => ?_) (fun q2 H4 X4 => ?_)
            · exact rootW (by rw [eroot]; simpa using q2) _ _ _ rfl (X23.trans X4)
            · refine s_retL (el_lst ea_nil (Nat.zero_le _)) fun p H5 hp X5 h5 => kont p H5 (fresh_back (X23.trans X4) hp) ((X23.trans X4).trans X5) ?_
              have : rootOk rs (.str x) = true := by rw [eroot]; simpa using q2
              rw [er, this]
              exact h5
          | _ => cases qn
end
end K03

namespace K03
open PySem L2 Way Evl
/-! rows that are bent -/
structure RPre (r : Kd) : Prop where
  n : knS r.name = true
  f : ∀ f ∈ r.fields, FGood f
  l : r.fields.length ≤ 11
  b : ∀ b, r.base = some b → knS b = true ∧ b ≠ r.name ∧ r.frozen = false ∧ r.heirs = false
  h : r.heirs = true → r.frozen = false ∧ r.key = none
  k : ∀ k, r.key = some k → fnS k = true
  g : r.registered = true → r.key ≠ none
theorem RGood.pre {r : Kd} (h : RGood r) : RPre r := ⟨h.n, h.f, by have := h.l; omega, h.b, h.h, h.k, h.g⟩
theorem good_fn {f : Fd} (h : FGood f) : fnS f.name = true := by
  unfold FGood at h
  simp only [fFR, Bool.and_eq_true] at h
  exact h.1
structure Bs (K : PySem.W.Frag) (H : Hp) (p c l ln lp : Addr) (k : Nat) (rs : List Kd) (as : List Addr) (names pool : List Str) : Prop where
  P : Pen H p c k
  R : RwsAt K rs as l H
  S : Src H p ln lp names pool
section
variable {K : PySem.W.Frag} {H H' : Hp} {p c l ln lp a : Addr} {k k' i : Nat} {rs : List Kd} {as : List Addr} {names pool : List Str} {r r' : Kd}
theorem Bs.mono (h : Bs K H p c l ln lp k rs as names pool) (e : Ex H H') : Bs K H' p c l ln lp k rs as names pool := ⟨h.P.mono e, h.R.mono e, h.S.mono e⟩
theorem Bs.le (h : Bs K H p c l ln lp k rs as names pool) (e : k ≤ k') : Bs K H p c l ln lp k' rs as names pool := ⟨h.P.le e, h.R, h.S⟩
theorem Bs.pen (h : Bs K H p c l ln lp k rs as names pool) (kp : Kp p H H') (P : Pen H' p c k') : Bs K H' p c l ln lp k' rs as names pool := ⟨P, h.R.pen h.P kp, h.S.kp kp⟩
theorem Bs.row (h : Bs K H p c l ln lp k rs as names pool) (ha : as[i]? = some a) (hr : rs[i]? = some r) : RowAt K r (.ref a) H := by
  obtain ⟨b, s, e, _, hs, hrow⟩ := h.R.at_ (i := i) (x := .ref a) (by rw [List.getElem?_map, ha]; rfl)
  cases e
  rw [hr] at hs
  cases hs
  exact hrow
theorem Bs.put {kv kv' : List (Key × V)} (h : Bs K H p c l ln lp k rs as names pool) (ha : as[i]? = some a) (hr0 : rs[i]? = some r) (hd : H a = some (.dK kv)) (hr : RowAt K r' (.ref a) (upd H a (.dK kv'))) : Bs K (upd H a (.dK kv')) p c l ln lp k (rs.set i r') as names pool := by
  obtain ⟨a', o, xs, e, h1, h2, h3⟩ := h.row ha hr0
  cases e
  have na := row_ne h.P h1
  have nc : a ≠ c := fun z => by
    obtain ⟨cs, hcs⟩ := h.P.cells
    rw [z, hcs] at hd; cases hd
  have n1 : ln ≠ a := fun z => by have := h.S.hn; rw [z, hd] at this; cases this
  have n2 : lp ≠ a := fun z => by have := h.S.hp; rw [z, hd] at this; cases this
  exact ⟨h.P.upd na nc, h.R.put ha hd hr, ⟨(upd_ne n1).trans h.S.hn, h.S.np, h.S.n1, h.S.kn, (upd_ne n2).trans h.S.hp, h.S.pp, h.S.p1, h.S.nd, h.S.fn⟩⟩
/-- row[f] = v, of the others than own -/
theorem bs_put {σ : L2.St} {td : TE} {N : L2.St → Hp → Prop} {f : Str} {v : V} (h : Bs K H p c l ln lp k rs as names pool) (ha : as[i]? = some a) (hr : rs[i]? = some r) (hf : r'.fields = r.fields) (hp : ∀ o, putK (kdK r o) (.inr f) v = kdK r' o) (h1 : Ev td σ H (.ref a)) (q : ∀ H1, Bs K H1 p c l ln lp k (rs.set i r') as names pool → N σ H1) : gSub td (tC (.str f)) rSetD v σ H N :=
  h1 H (Ex.refl H) _ fun H2 e2 => by
    have h2 := h.mono e2
    obtain ⟨a', o, xs, e, d1, d2, d3⟩ := h2.row ha hr
    cases e
    refine ⟨a, _, rfl, DPut.k (k := .inr f) d1 (sz_lt (by show 7 < 100000; decide)), q _ ?_⟩
    rw [hp o]
    have noa : o ≠ a := fun z => by rw [z, d1] at d2; cases d2
    have KI : KpI K H2 (upd H2 a (.dK (kdK r' o))) := kpi_dK d1 (Kp.set (Kp.refl _ _))
    exact h2.put ha hr d1 ⟨a, o, xs, rfl, upd_same, (upd_ne noa).trans d2, by rw [hf]; exact Paired.mapP d3 fun _ _ ⟨t, wt, e, z1, z2⟩ => ⟨t, wt, e, KI.t _ _ z1, KI.t _ _ z2⟩⟩
theorem s_bs {σ : L2.St} {te td : TE} {D : Ends} {f : Str} {v : V} (h : Bs K H p c l ln lp k rs as names pool) (ha : as[i]? = some a) (hr : rs[i]? = some r) (hf : r'.fields = r.fields) (hp : ∀ o, putK (kdK r o) (.inr f) v = kdK r' o) (hv : Ev te σ H v) (h1 : Ev td σ H (.ref a)) (q : ∀ H1, Bs K H1 p c l ln lp k (rs.set i r') as names pool → D.nx σ H1) (m : ∀ H1, Ex H H1 → Ev td σ H1 (.ref a) := by intro _ _; exact ev_var rfl) : tAsg te (gSub td (tC (.str f)) rSetD) D σ H :=
  hv H (Ex.refl H) _ fun H1 e1 => bs_put (h.mono e1) ha hr hf hp (m H1 e1) q
theorem q_bs {σ : L2.St} {te td : TE} {D : Ends} {tz : TS} {f : Str} {v : V} (h : Bs K H p c l ln lp k rs as names pool) (ha : as[i]? = some a) (hr : rs[i]? = some r) (hf : r'.fields = r.fields) (hp : ∀ o, putK (kdK r o) (.inr f) v = kdK r' o) (hv : Ev te σ H v) (h1 : Ev td σ H (.ref a)) (q : ∀ H1, Bs K H1 p c l ln lp k (rs.set i r') as names pool → tz D σ H1) (m : ∀ H1, Ex H H1 → Ev td σ H1 (.ref a) := by intro _ _; exact ev_var rfl) : tSeq (tAsg te (gSub td (tC (.str f)) rSetD)) tz D σ H := s_bs (D := { D with nx := tz D }) h ha hr hf hp hv h1 q m
/-- row["own"] = l -/
theorem bs_own {σ : L2.St} {td : TE} {N : L2.St → Hp → Prop} {lo : Addr} {xs : List V} {fs : List Fd} (h : Bs K H p c l ln lp k rs as names pool) (ha : as[i]? = some a) (hr : rs[i]? = some r) (hl : H lo = some (.lst xs)) (hx : Paired (fun x f => FtAt K f x H) xs fs) (h1 : Ev td σ H (.ref a)) (q : ∀ H1, Bs K H1 p c l ln lp k (rs.set i { r with fields := fs }) as names pool → N σ H1) : gSub td (tC (.str "own")) rSetD (.ref lo) σ H N :=
  h1 H (Ex.refl H) _ fun H2 e2 => by
    have h2 := h.mono e2
    obtain ⟨a', o, ys, e, d1, d2, d3⟩ := h2.row ha hr
    cases e
    refine ⟨a, _, rfl, DPut.k (k := .inr "own") d1 (sz_lt (by show 7 < 100000; decide)), q _ ?_⟩
    have e9 : putK (kdK r o) (.inr "own") (.ref lo) = kdK { r with fields := fs } lo := rp_own
    rw [e9]
    have noa : lo ≠ a := fun z => by rw [z] at hl; rw [e2 _ _ hl] at d1; cases d1
    have KI : KpI K H2 (upd H2 a (.dK (kdK { r with fields := fs } lo))) := kpi_dK d1 (Kp.set (Kp.refl _ _))
    exact h2.put ha hr d1 ⟨a, lo, xs, rfl, upd_same, (upd_ne noa).trans (e2 _ _ hl), Paired.mapP hx fun _ _ ⟨t, wt, e, z1, z2⟩ => ⟨t, wt, e, KI.t _ _ (ex_t e2 z1), KI.t _ _ (ex_t e2 z2)⟩⟩
end
theorem set_at {rs : List Kd} {i : Nat} {r r' : Kd} (h : rs[i]? = some r) : (rs.set i r')[i]? = some r' := List.getElem?_set_self (List.getElem?_eq_some_iff.mp h).1
def spLong (K : PySem.W.Frag) : Sp := fun vs H Q _ => ∃ (p c l ln lp a : Addr) (k i : Nat) (rs : List Kd) (as : List Addr) (names pool : List Str) (r : Kd), vs = [.ref p, .ref a, .ref ln, .ref lp] ∧ Bs K H p c l ln lp k rs as names pool ∧ k ≤ 60000 ∧ as[i]? = some a ∧ rs[i]? = some r ∧
  ∀ H' fs, Bs K H' p c l ln lp (k + 70) (rs.set i { r with fields := fs }) as names pool → fs.length ≤ 10 → (∀ f ∈ fs, FGood f) → Q .non H'
def spBased (K : PySem.W.Frag) : Sp := fun vs H Q _ => ∃ (p c l ln lp a : Addr) (k i : Nat) (rs : List Kd) (as : List Addr) (names pool : List Str) (r : Kd), vs = [.ref p, .ref a, .ref ln] ∧ Bs K H p c l ln lp k rs as names pool ∧ k ≤ 60000 ∧ as[i]? = some a ∧ rs[i]? = some r ∧ RGood r ∧
  ∀ H' r', Bs K H' p c l ln lp (k + 1) (rs.set i r') as names pool → RPre r' → Q .non H'
def spKeyed (K : PySem.W.Frag) : Sp := fun vs H Q _ => ∃ (p c l ln lp a : Addr) (k i : Nat) (rs : List Kd) (as : List Addr) (names pool : List Str) (r : Kd), vs = [.ref p, .ref a, .ref lp] ∧ Bs K H p c l ln lp k rs as names pool ∧ k ≤ 60000 ∧ as[i]? = some a ∧ rs[i]? = some r ∧ RGood r ∧
  ∀ H' r', Bs K H' p c l ln lp (k + 2) (rs.set i r') as names pool → RPre r' → Q .non H'
def spBent (K : PySem.W.Frag) : Sp := fun vs H Q _ => ∃ (p c l ln lp : Addr) (k : Nat) (rs : List Kd) (as : List Addr) (names pool : List Str), vs = [.ref p, .ref l, .ref ln, .ref lp] ∧ Bs K H p c l ln lp k rs as names pool ∧ k ≤ 50000 ∧ 1 ≤ rs.length ∧ rs.length ≤ 12 ∧ (∀ r ∈ rs, RGood r) ∧
  ∀ H' rs', Bs K H' p c l ln lp (k + 80) rs' as names pool → rs'.length = rs.length → (∀ r ∈ rs', RPre r) → Q .non H'
def spMend (K : PySem.W.Frag) : Sp := fun vs H Q _ => ∃ (p c l ln lp : Addr) (k : Nat) (rs : List Kd) (as : List Addr) (names pool : List Str), vs = [.ref l] ∧ Bs K H p c l ln lp k rs as names pool ∧ (∀ r ∈ rs, RPre r) ∧
  ∀ H' rs', Bs K H' p c l ln lp k rs' as names pool → rs'.length = rs.length → (∀ r ∈ rs', RGood r) → Q .non H'
theorem mem_set {α : Type} {l : List α} {i : Nat} {x y : α} (h : y ∈ l.set i x) : y ∈ l ∨ y = x := List.mem_or_eq_of_mem_set h
section
variable {P : Program} {w : World} {K : PySem.W.Frag} {mg : Str → Option Value} {base : Heap}
theorem ok_longer (T : Txt P K mg) : FnOk P w K mg base CX0 5 T.f_longer T.d_longer P_longer (spLong K) := by
  have G_take := ok_take (P := P) (w := w) (base := base) T
  have G_field := ok_field (P := P) (w := w) (base := base) T
  refine T.F_longer.ok sc_longer (fun vs H Q E h => ?_) (fun cdv A outer s H vs Q E hr h => ?_)
  · obtain ⟨p, c, l, ln, lp, a, k, i, rs, as, names, pool, r, rfl, _⟩ := h
    rfl
  · obtain ⟨p, c, l, ln, lp, a, k, i, rs, as, names, pool, r, rfl, hB, hk, ha, hri, kont⟩ := h
    refine ⟨_, (pss_cons (ps_set (i := 4) sc_longer.nd rfl (Or.inl rfl) (pe_call G_take (hr.mono (by decide)) (by rfl) T.g_take T.F_take.kp T.B_take .nil pass0 (pa_cons (pv 0) (pa_cons (pe_callB call_len_seq (by rfl) T.b_len (by decide +kernel) (pa_cons (pv 3) pa_nil)) pa_nil))))
      (pss_cons (ps_set (i := 5) sc_longer.nd rfl (Or.inl rfl) (pe_op op_cat (pe_slice sl_list (pv 3) (po_some (pv 4)) po_none) (pe_slice sl_list (pv 3) po_none (po_some (pv 4)))))
      (pss_cons (ps_set (i := 6) sc_longer.nd rfl (Or.inl rfl) (pe_lst pa_nil))
      (pss_cons (ps_for PassesOwn.never rfl (pi_range1 (by rfl) T.b_range (pa_cons (pe_op op_add pe_int (pe_call G_take (hr.mono (by decide)) (by rfl) T.g_take T.F_take.kp T.B_take .nil pass0 (pa_cons (pv 0) (pa_cons pe_int pa_nil)))) pa_nil)) (pg_name (i := 7) sc_longer.nd rfl (Or.inl rfl)) (pss_one (ps_expr (pe_bm PySem.F.plainAttrs_list PySem.F.slot_list_append PySem.F.type_list_append mt_append (pv 6) (pa_cons (pe_call G_field hr (by rfl) T.g_field T.F_field.kp T.B_field .nil pass0 (pa_cons (pv 0) (pa_cons (pe_ix ix_list (pv 5) (pv 7) (fun _ _ => rfl)) (pa_cons (pv 2) (pa_cons (pv 3) (pa_cons (pe_cmpR op_notN (pe_dget (hu_of hr) (pv 1) pe_str (fun _ _ => rfl)) pe_non (nomark _)) pa_nil)))))) pa_nil)))))
      (pss_one (ps_asg (pv 6) (pg_sub (pv 1) pe_str (set_dict (hu_of hr))))))))), ?_⟩
    have hp14 := hB.S.p1
    refine q_any (takeN (n := (pool.length : Int)) rfl (len_map (K := K) (ev_var rfl) hB.S.hp) hB.P (by omega) (by omega) (by omega) fun H1 d K1 P1 d0 d1 => ?_)
    have hB1 := hB.pen K1 P1
    refine q_asgL (el_rot (K := K) (a := 3) (s := 4) rfl rfl hB1.S.hp d0 d1 (by omega)) fun fr H2 hfr X2 h2 => ?_
    have hfn : ∀ y ∈ rot pool d.toNat, fnS y = true := fun y hy => hB.S.fn y (rot_mem.mp hy)
    have hfl := rot_len (ws := pool) (i := d.toNat)
    revert h2 hfn hfl
    generalize rot pool d.toNat = free
    intro h2 hfn hfl
    have hB2 := hB1.mono X2
    have nfr : fr ≠ p := P1.ne hfr
    refine q_asgL (el_lst ea_nil (Nat.zero_le _)) fun lo H3 hlo X3 h3 => ?_
    have nlo : lo ≠ p := hB2.P.ne hlo
    refine for_seq ?_
    refine takeN (n := 5) rfl ev_c (hB2.P.mono X3) (by omega) (by decide) (by decide) fun H4 e K4 P4 e0 e1 => ⟨_, _, rfl, rfl, ?_⟩
    obtain ⟨n, hn, hn10⟩ : ∃ n : Nat, (6 : Int) + e = (n : Int) ∧ n ≤ 10 := ⟨((6 : Int) + e).toNat, by omega, by omega⟩
    refine q_forR1 (n := (6 : Int) + e) ea_giv (by omega) (fun j σ' H' => ∃ (xs : List V) (os : List Fd) (v7 : Option V), σ' = [some (.ref p), some (.ref a), some (.ref ln), some (.ref lp), some (.int d), some (.ref fr), some (.ref lo), v7] ∧ Kp p H2 H' ∧ Pen H' p c (k + 2 + 6 * j) ∧ H' lo = some (.lst xs) ∧ Paired (fun x f => FtAt K f x H') xs os ∧ os.length = j ∧ ∀ f ∈ os, FGood f)
      (fun H5 X5 => ⟨[], [], none, rfl, Kp.trans (Kp.of X3) (Kp.trans K4 (Kp.of X5)), (P4.mono X5).le (by omega), X5 _ _ (K4 _ _ nlo h3), .nil, rfl, fun f z => (by cases z)⟩) ?_ ?_
    · rintro j σ' H5 hj ⟨xs, os, v7, rfl, K5, P5, h5, hx5, los, hos⟩
      have hj' : j < n := by omega
      have hif : j < free.length := by omega
      have lxs : xs.length = j := (Paired.length hx5).trans los
      have hfr5 := K5 _ _ nfr h2
      have hB5 := hB2.pen K5 P5
      have hrow5 := hB5.row ha hri
      have hfi : free[j]? = some free[j] := List.getElem?_eq_getElem hif
      refine ⟨_, rfl, Or.inl ⟨rfl, _, sq_of h5⟩, ⟨_, rfl, (ev_op (ev_var rfl) (ev_var rfl) (rv_ixL (K := K) (sq_of hfr5) (at_of (j := j) (by omega) (by rw [List.getElem?_map, hfi]; rfl))) : Ev _ _ H5 (.str free[j])) H5 (Ex.refl H5) _ fun H6 X6 => ⟨_, rfl, _, rfl, ?_⟩⟩⟩
      refine (ev_op (ev_key (ev_var rfl) (rowAt_mono _ _ _ _ X6 hrow5)) ev_c rv_notN : Ev _ _ H6 _) H6 (Ex.refl H6) _ fun H7 X7 => ?_
      have X67 := X6.trans X7
      refine ⟨p, c, ln, lp, k + 2 + 6 * j, free[j], names, pool, _, rfl, P5.mono X67, by omega, hB5.S.mono X67, hfn _ (List.getElem_mem hif), fun H8 v f K8 P8 hft hfg _ _ _ => ?_⟩
      have h8 := K8 _ _ nlo (X67 _ _ h5)
      refine ⟨lo, xs, v, rfl, rfl, h8, sz_lt (by omega), ?_⟩
      have kk : Kp lo H8 (upd H8 lo (.lst (xs ++ [v]))) := Kp.set (Kp.refl _ _)
      have ft : ∀ {g : Fd} {y : V}, FtAt K g y H8 → FtAt K g y (upd H8 lo (.lst (xs ++ [v]))) := fun z => by
        obtain ⟨t, wt, e, z1, z2⟩ := z
        have KI : KpI K H8 (upd H8 lo (.lst (xs ++ [v]))) := kpi_lst h8 kk
        exact ⟨t, wt, e, KI.t _ _ z1, KI.t _ _ z2⟩
      refine ⟨xs ++ [v], os ++ [f], _, rfl, Kp.mut (Kp.trans K5 (Kp.trans (Kp.of X67) K8)) hlo, (P8.upd nlo (fun z => ?_)).le (by omega), upd_same, pr_snoc (Paired.mapP hx5 fun _ _ z => ft (ftAt_pen (P5.mono X67) K8 (ftAt_mono _ _ _ _ X67 z))) (ft hft), by rw [List.length_append, los]; rfl, fun g hg => ?_⟩
      · obtain ⟨cs, hcs⟩ := hB2.P.cells
        rw [z, hcs] at hlo; cases hlo
      · rcases List.mem_append.mp hg with z | z
        · exact hos g z
        · rw [List.mem_singleton.mp z]
          exact hfg
    · rintro σ' H5 ⟨xs, os, v7, rfl, K5, P5, h5, hx5, los, hos⟩
      have en : ((6 : Int) + e).toNat = n := by omega
      rw [en] at P5 los
      exact ⟨_, rfl, bs_own ((hB2.pen K5 P5).le (by omega)) ha hri h5 hx5 (ev_var rfl) fun H6 hB6 => kont H6 os hB6 (by omega) hos⟩
theorem ok_based (T : Txt P K mg) : FnOk P w K mg base CX0 3 T.f_based T.d_based P_based (spBased K) := by
  have G_one_of := ok_one_of (P := P) (w := w) (base := base) T
  refine T.F_based.ok sc_based (fun vs H Q E h => ?_) (fun cdv A outer s H vs Q E hr h => ?_)
  · obtain ⟨p, c, l, ln, lp, a, k, i, rs, as, names, pool, r, rfl, _⟩ := h
    rfl
  · obtain ⟨p, c, l, ln, lp, a, k, i, rs, as, names, pool, r, rfl, hB, hk, ha, hri, hg, kont⟩ := h
    refine ⟨_, (pss_cons (ps_asg pe_non (pg_sub (pv 1) pe_str (set_dict (hu_of hr))))
      (pss_cons (ps_set (i := 3) sc_based.nd rfl (Or.inl rfl) (pe_call G_one_of hr (by rfl) T.g_one_of T.F_one_of.kp T.B_one_of .nil pass0 (pa_cons (pv 0) (pa_cons (pv 2) pa_nil))))
      (pss_one (ps_if (pt_cmpR op_ne (pv 3) (pe_dget (hu_of hr) (pv 1) pe_str (fun _ _ => rfl)) (nomark _)) (pss_cons (ps_asg (pv 3) (pg_sub (pv 1) pe_str (set_dict (hu_of hr))))
      (pss_cons (ps_asg pe_bl (pg_sub (pv 1) pe_str (set_dict (hu_of hr))))
      (pss_one (ps_asg pe_bl (pg_sub (pv 1) pe_str (set_dict (hu_of hr))))))) pss_nil)))), ?_⟩
    have pre0 : RPre { r with base := none } := ⟨hg.n, hg.f, by have := hg.l; show r.fields.length ≤ 11; omega, fun b z => (by cases z), hg.h, hg.k, hg.g⟩
    refine q_bs (r' := { r with base := none }) hB ha hri rfl (fun o => rp_base) ev_c (ev_var rfl) fun H1 hB1 => ?_
    have n1 := hB1.S.n1
    refine q_any (oneV (K := K) rfl (ev_var rfl) hB1.S.hn hB1.P (by omega) (by rw [List.length_map]; omega) (by rw [List.length_map]; omega) fun H2 v hv K2 P2 => ?_)
    obtain ⟨b, hb, rfl⟩ := List.mem_map.mp hv
    have hB2 := hB1.pen K2 P2
    have hr2 := set_at (r' := { r with base := none }) hri
    refine s_when (b := !decide (b = r.name)) (et_is (et_test (ev_op (ev_var rfl) (ev_name (ev_var rfl) (hB2.row ha hr2)) (rv_ne rfl))) (by simp)) (fun q H3 X3 => ?_) (fun q H3 X3 => ?_)
    · have nb : b ≠ r.name := by simpa using q
      refine q_bs (r' := { r with base := some b }) (hB2.mono X3) ha hr2 rfl (fun o => rp_base) (ev_var rfl) (ev_var rfl) fun H4 hB4 => ?_
      rw [List.set_set] at hB4
      have hr4 := set_at (r' := { r with base := some b }) hri
      refine q_bs (r' := { r with base := some b, frozen := false }) hB4 ha hr4 rfl (fun o => rp_frozen) ev_c (ev_var rfl) fun H5 hB5 => ?_
      rw [List.set_set] at hB5
      have hr5 := set_at (r' := { r with base := some b, frozen := false }) hri
      refine s_bs (r' := { r with base := some b, frozen := false, heirs := false }) hB5 ha hr5 rfl (fun o => rp_heirs) ev_c (ev_var rfl) fun H6 hB6 => ?_
      rw [List.set_set] at hB6
      exact kont H6 _ hB6 ⟨hg.n, hg.f, by have := hg.l; show r.fields.length ≤ 11; omega, fun b' z => (by cases z; exact ⟨hB.S.kn b hb, nb, rfl, rfl⟩), fun z => (by cases z), hg.k, hg.g⟩
    · exact kont H3 _ (hB2.mono X3) pre0
theorem ok_keyed (T : Txt P K mg) : FnOk P w K mg base CX0 3 T.f_keyed T.d_keyed P_keyed (spKeyed K) := by
  have G_one_of := ok_one_of (P := P) (w := w) (base := base) T
  have G_take := ok_take (P := P) (w := w) (base := base) T
  refine T.F_keyed.ok sc_keyed (fun vs H Q E h => ?_) (fun cdv A outer s H vs Q E hr h => ?_)
  · obtain ⟨p, c, l, ln, lp, a, k, i, rs, as, names, pool, r, rfl, _⟩ := h
    rfl
  · obtain ⟨p, c, l, ln, lp, a, k, i, rs, as, names, pool, r, rfl, hB, hk, ha, hri, hg, kont⟩ := h
    refine ⟨_, (pss_cons (ps_asg pe_bl (pg_sub (pv 1) pe_str (set_dict (hu_of hr))))
      (pss_cons (ps_asg (pe_call G_one_of hr (by rfl) T.g_one_of T.F_one_of.kp T.B_one_of .nil pass0 (pa_cons (pv 0) (pa_cons (pe_op op_cat (pv 2) (pe_op op_rep (pe_lc (own := [("_law_field_here", 3)]) (g := gName 3) (by rfl) sc_keyed.nd (pi_list (pe_dget (hu_of hr) (pv 1) pe_str (fun _ _ => rfl))) (blkOk_by (own := [("_law_field_here", 3)]) (N := N_keyed) (sc := defScope s_keyed) (by decide +kernel)) (fun _ _ _ _ _ => (pg_name (i := 3) sc_keyed.nd rfl (Or.inl rfl))) (fun _ _ _ _ _ => pts_nil) (fun _ _ _ _ _ => (pe_ix (Way.kk_ixT (K := K)) (pv 3) pe_int (fun _ _ => rfl)))) pe_int)) pa_nil))) (pg_sub (pv 1) pe_str (set_dict (hu_of hr))))
      (pss_one (ps_asg (pe_cmpR op_eq (pe_call G_take (hr.mono (by decide)) (by rfl) T.g_take T.F_take.kp T.B_take .nil pass0 (pa_cons (pv 0) (pa_cons pe_int pa_nil))) pe_int (nomark _)) (pg_sub (pv 1) pe_str (set_dict (hu_of hr))))))), ?_⟩
    refine q_bs (r' := { r with heirs := false }) hB ha hri rfl (fun o => rp_heirs) ev_c (ev_var rfl) fun H1 hB1 => ?_
    have hr1 := set_at (r' := { r with heirs := false }) hri
    have p14 := hB1.S.p1
    have l10 := hg.l
    obtain ⟨a', o, xs, e, d1, d2, d3⟩ := hB1.row ha hr1
    cases e
    have d3' : Paired (fun x f => FtAt K f x H1) xs r.fields := d3
    have emf : (r.fields.map fun f : Fd => V.str f.name) = (r.fields.map Fd.name).map V.str := by rw [List.map_map]; rfl
    have elr : EvL (tOp rRep (tLc (iList K (tDGet (tVar 1) (tC (.str "own")))) (gName 3) tYes (tOp (rIxT K) (tVar 3) (tC (.int 0))) [3]) (tC (.int 4))) [some (.ref p), some (.ref a), some (.ref lp), none] H1 (List.replicate 4 (r.fields.map fun f : Fd => V.str f.name)).flatten := fun H2 X2 Q' q' =>
      (el_mapL (K := K) (α := Fd) (P := FtAt K) (S := r.fields) (w := fun f : Fd => V.str f.name) ftAt_mono (ev_dgetK (ev_var rfl) ev_c d1 rk_own) ⟨o, xs, rfl, d2, d3'⟩ (by omega) (fun _ => rfl) fun x f H3 X3 hf hx => ev_f0 (ev_var rfl) hx : EvL _ _ H1 _) H2 X2 _ fun q3 H3 hq3 X3 h3 => ⟨q3, 4, _, rfl, rfl, h3, by decide, by decide, sz_of (by rw [List.length_map]; show _ * 4 ≤ _; omega), fun t ht => q' t _ (fresh_back X3 ht) (X3.trans (Ex.new ht)) upd_same⟩
    have lrep : (List.replicate 4 (r.fields.map fun f : Fd => V.str f.name)).flatten.length ≤ 40 := by
      simp only [List.length_flatten, List.map_replicate, List.length_map, List.sum_replicate_nat]
      omega
    refine oneL (K := K) (xs := pool.map V.str ++ (List.replicate 4 (r.fields.map fun f : Fd => V.str f.name)).flatten) rfl (el_catVL (K := K) (ev_var rfl) hB1.S.hp elr (by rw [List.length_map]; omega)) hB1.P (by omega) (by rw [List.length_append, List.length_map]; omega) (by rw [List.length_append, List.length_map]; omega) fun H2 v hv K2 P2 => ?_
    obtain ⟨y, rfl, hy⟩ : ∃ y, v = .str y ∧ fnS y = true := by
      rcases List.mem_append.mp hv with z | z
      · obtain ⟨y, hy, rfl⟩ := List.mem_map.mp z
        exact ⟨y, rfl, hB.S.fn y hy⟩
      · rw [List.mem_flatten] at z
        obtain ⟨ls, hls, z⟩ := z
        rw [List.mem_replicate] at hls
        rw [hls.2] at z
        obtain ⟨f, hf, rfl⟩ := List.mem_map.mp z
        exact ⟨_, rfl, good_fn (hg.f f hf)⟩
    have hB2 := hB1.pen K2 P2
    refine bs_put (r' := { r with heirs := false, key := some y }) hB2 ha hr1 rfl (fun o => rp_key) (ev_var rfl) fun H3 hB3 => ?_
    rw [List.set_set] at hB3
    have hr3 := set_at (r' := { r with heirs := false, key := some y }) hri
    refine takeN (n := 2) rfl ev_c hB3.P (by omega) (by decide) (by decide) fun H4 u K4 P4 _ _ => ⟨rfl, ?_⟩
    have hB4 := hB3.pen K4 P4
    refine bs_put (r' := { r with heirs := false, key := some y, registered := decide (V.int u = V.int 0) }) hB4 ha hr3 rfl (fun o => rp_registered) (ev_var rfl) fun H5 hB5 => ?_
    rw [List.set_set] at hB5
    exact kont H5 _ hB5 ⟨hg.n, hg.f, by show r.fields.length ≤ 11; omega, fun b z => let ⟨q1, q2, q3, _⟩ := hg.b b z; ⟨q1, q2, q3, rfl⟩, fun z => (by cases z), fun k z => (by cases z; exact hy), fun _ z => (by cases z)⟩
end
end K03

namespace K03
open PySem L2 Way Evl
section
variable {P : Program} {w : World} {K : PySem.W.Frag} {mg : Str → Option Value} {base : Heap}
theorem ok_mended (T : Txt P K mg) : FnOk P w K mg base CX0 1 T.f_mended T.d_mended P_mended (spMend K) := by
  refine T.F_mended.ok sc_mended (fun vs H Q E h => ?_) (fun cdv A outer s H vs Q E hr h => ?_)
  · obtain ⟨p, c, l, ln, lp, k, rs, as, names, pool, rfl, _⟩ := h
    rfl
  · obtain ⟨p, c, l, ln, lp, k, rs, as, names, pool, rfl, hB, hpre, kont⟩ := h
    refine ⟨_, (pss_one (ps_for PassesOwn.never rfl (pi_list (pv 0)) (pg_name (i := 1) sc_mended.nd rfl (Or.inl rfl)) (pss_cons (ps_set (i := 2) sc_mended.nd rfl (Or.inl rfl) (pe_lst pa_nil))
      (pss_cons (ps_for PassesOwn.never rfl (pi_list (pe_dget (hu_of hr) (pv 1) pe_str (fun _ _ => rfl))) (pg_name (i := 3) sc_mended.nd rfl (Or.inl rfl)) (pss_one (ps_if (pt_cmpR op_notIn_seq (pe_ix ix_tup (pv 3) pe_int (fun _ _ => rfl)) (pe_lc (own := [("_law_one", 4)]) (g := gName 4) (by rfl) sc_mended.nd (pi_list (pv 2)) (blkOk_by (own := [("_law_one", 4)]) (N := N_mended) (sc := defScope s_mended) (by decide +kernel)) (fun _ _ _ _ _ => (pg_name (i := 4) sc_mended.nd rfl (Or.inl rfl))) (fun _ _ _ _ _ => pts_nil) (fun _ _ _ _ _ => (pe_ix (Way.kk_ixT (K := K)) (pv 4) pe_int (fun _ _ => rfl)))) (by rfl)) (pss_one (ps_expr (pe_bm PySem.F.plainAttrs_list PySem.F.slot_list_append PySem.F.type_list_append mt_append (pv 2) (pa_cons (pv 3) pa_nil)))) pss_nil)))
      (pss_one (ps_asg (pe_slice sl_list (pv 2) po_none (po_some pe_int)) (pg_sub (pv 1) pe_str (set_dict (hu_of hr))))))))), ?_⟩
    have las := hB.R.len
    have hend : ∀ H' rs', Bs K H' p c l ln lp k rs' as names pool → rs'.length = rs.length → (∀ (j : Nat) (r : Kd), j < rs.length → rs'[j]? = some r → RGood r) → Q .non H' := fun H' rs' hB' hl' hg => kont H' rs' hB' hl' fun r hr' => by
      obtain ⟨j, hj⟩ := List.getElem?_of_mem hr'
      exact hg j r (by rw [← hl']; exact (List.getElem?_eq_some_iff.mp hj).1) hj
    refine s_forLn (K := K) (ev_var rfl) (sq_of hB.R.h) (fun i σ' H' => ∃ (rs' : List Kd) (v1 v2 v3 : Option V), σ' = [some (.ref l), v1, v2, v3, none] ∧ Bs K H' p c l ln lp k rs' as names pool ∧ rs'.length = rs.length ∧ (∀ (j : Nat) (r : Kd), j < i → rs'[j]? = some r → RGood r) ∧ ∀ r ∈ rs', RPre r)
      (fun H1 X1 => ⟨rs, none, none, none, rfl, hB.mono X1, rfl, fun j r z => absurd z (Nat.not_lt_zero _), hpre⟩) (fun i σ' H' _ ⟨_, _, _, _, _, z, _⟩ => sq_of z.R.h) ?_ ?_
    · rintro i x σ' H1 hx ⟨rs', v1, v2, v3, rfl, hB1, hl1, hg1, hp1⟩
      obtain ⟨a, r, rfl, ha, hri, hrow⟩ := hB1.R.at_ hx
      have hp := hp1 r (List.mem_of_getElem? hri)
      have l11 := hp.l
      refine q_asgL (el_lst ea_nil (Nat.zero_le _)) fun lo H2 hlo X2 h2 => ?_
      obtain ⟨a', o, xs, e, b1, b2, b3⟩ := id hrow
      cases e
      have d1 := X2 _ _ b1
      have d2 := X2 _ _ b2
      have d3 := Paired.mapP b3 fun _ _ z => ftAt_mono _ _ _ _ X2 z
      have nol : o ≠ lo := fun z => by rw [z, hlo] at b2; cases b2
      have lxs : xs.length = r.fields.length := Paired.length d3
      refine q_forLn (K := K) (ev_dgetK (ev_var rfl) ev_c d1 rk_own) (sq_of d2) (fun j σ' H' => ∃ (ys : List V) (os : List Fd) (v3 : Option V), σ' = [some (.ref l), some (.ref a), some (.ref lo), v3, none] ∧ Ex H1 H' ∧ H' o = some (.lst xs) ∧ H' lo = some (.lst ys) ∧ Paired (fun x f => FtAt K f x H') ys os ∧ (∀ f ∈ os, f ∈ r.fields) ∧ (os.map Fd.name).Nodup ∧ os.length ≤ j ∧ Paired (fun x f => FtAt K f x H') xs r.fields)
        (fun H3 X3 => ⟨[], [], v3, rfl, X2.trans X3, X3 _ _ d2, X3 _ _ h2, .nil, fun f z => (by cases z), List.nodup_nil, Nat.le_refl _, Paired.mapP d3 fun _ _ z => ftAt_mono _ _ _ _ X3 z⟩) (fun i σ' H' _ ⟨_, _, _, _, _, z, _⟩ => sq_of z) ?_ ?_
      · rintro j x σ' H3 hx3 ⟨ys, os, v3', rfl, X3, d2', h3, hys, hsub, hnd, hlen, d3'⟩
        obtain ⟨f, hf, hfx⟩ := pr_at d3' hx3
        have hfm := List.mem_of_getElem? hf
        have hjl : j < xs.length := (List.getElem?_eq_some_iff.mp hx3).1
        have lys : ys.length = os.length := Paired.length hys
        have emf : (os.map fun f : Fd => V.str f.name) = (os.map Fd.name).map V.str := by rw [List.map_map]; rfl
        refine s_when (b := !decide (f.name ∈ os.map Fd.name)) (et_is (et_test (ev_opL (xs := os.map fun f : Fd => V.str f.name) (ev_f0 (ev_var rfl) hfx) (el_mapL (K := K) (α := Fd) (P := FtAt K) (S := os) (w := fun f : Fd => V.str f.name) ftAt_mono (ev_var rfl) ⟨lo, ys, rfl, h3, hys⟩ (by omega) (fun _ => rfl) fun x f H4 X4 hf hx => ev_f0 (ev_var rfl) hx) fun q H4 h4 X4 => rv_inL (K := K) (neg := true) (sq_of h4) rfl (by rw [emf]; exact Way.flat_strs _))) (by show (!inV (.str f.name) _) = _; rw [emf, inV_strs])) (fun q H4 X4 => ?_) (fun q H4 X4 => ?_)
        · have nin : f.name ∉ os.map Fd.name := by simpa using q
          refine s_app (X4 _ _ h3) (ev_var rfl) (ev_var rfl) (by omega) fun H5 X5 => ?_
          have X45 := X4.trans X5
          have h5 := X45 _ _ h3
          have KI : KpI K H5 (upd H5 lo (.lst (ys ++ [x]))) := kpi_lst h5 (Kp.set (Kp.refl _ _))
          have ft : ∀ {g : Fd} {y : V}, FtAt K g y H3 → FtAt K g y (upd H5 lo (.lst (ys ++ [x]))) := fun z => by
            obtain ⟨t, wt, e, z1, z2⟩ := ftAt_mono _ _ _ _ X45 z
            exact ⟨t, wt, e, KI.t _ _ z1, KI.t _ _ z2⟩
          refine ⟨ys ++ [x], os ++ [f], _, rfl, Ex.mut (X3.trans X45) hlo, (upd_ne nol).trans (X45 _ _ d2'), upd_same, pr_snoc (Paired.mapP hys fun _ _ z => ft z) (ft hfx), fun g hg => ?_, ?_, by rw [List.length_append]; show _ + 1 ≤ _; omega, Paired.mapP d3' fun _ _ z => ft z⟩
          · rcases List.mem_append.mp hg with z | z
            · exact hsub g z
            · rw [List.mem_singleton.mp z]; exact hfm
          · rw [List.map_append, List.nodup_append]
            exact ⟨hnd, by simp, fun y hy z hz e => nin (by rw [List.mem_singleton.mp hz] at e; rw [← e]; exact hy)⟩
        · exact ⟨ys, os, _, rfl, X3.trans X4, X4 _ _ d2', X4 _ _ h3, Paired.mapP hys fun _ _ z => ftAt_mono _ _ _ _ X4 z, hsub, hnd, by omega, Paired.mapP d3' fun _ _ z => ftAt_mono _ _ _ _ X4 z⟩
      · rintro σ' H3 ⟨ys, os, v3', rfl, X3, d2', h3, hys, hsub, hnd, hlen, d3'⟩
        refine (en_take (K := K) (α := Fd) (P := FtAt K) (S := os) (k := 10) ftAt_mono (ev_var rfl) ev_c ⟨lo, ys, rfl, h3, hys⟩ : EvN _ _ H3 _) H3 (Ex.refl H3) _ fun q H4 hq X4 ⟨q', zs, e, h4, hzs⟩ => ?_
        cases e
        have hB4 := hB1.mono (X3.trans X4)
        refine bs_own hB4 ha hri h4 hzs (ev_var rfl) fun H5 hB5 => ?_
        have hgood : RGood { r with fields := os.take 10 } := ⟨hp.n, fun f hf => hp.f f (hsub f (List.mem_of_mem_take hf)), by show (os.take 10).length ≤ 10; rw [List.length_take]; omega, by show ((os.take 10).map Fd.name).Nodup; rw [List.map_take]; exact hnd.sublist (List.take_sublist _ _), hp.b, hp.h, hp.k, hp.g⟩
        refine ⟨rs'.set i { r with fields := os.take 10 }, _, _, _, rfl, hB5, by rw [List.length_set]; exact hl1, fun j r' hj hr' => ?_, fun r' hr' => ?_⟩
        · by_cases e : j = i
          · subst e
            rw [set_at hri] at hr'
            cases hr'
            exact hgood
          · rw [List.getElem?_set_ne (fun z => e z.symm)] at hr'
            exact hg1 j r' (by omega) hr'
        · rcases mem_set hr' with z | z
          · exact hp1 r' z
          · rw [z]; exact hgood.pre
    · rintro σ' H1 ⟨rs', v1, v2, v3, rfl, hB1, hl1, hg1, hp1⟩
      rw [List.length_map, las] at hg1
      exact hend H1 rs' hB1 hl1 hg1
theorem ok_bent (T : Txt P K mg) : FnOk P w K mg base CX0 6 T.f_bent T.d_bent P_bent (spBent K) := by
  have G_one_of := ok_one_of (P := P) (w := w) (base := base) T
  have G_take := ok_take (P := P) (w := w) (base := base) T
  have G_based := ok_based (P := P) (w := w) (base := base) T
  have G_keyed := ok_keyed (P := P) (w := w) (base := base) T
  have G_longer := ok_longer (P := P) (w := w) (base := base) T
  have G_field := ok_field (P := P) (w := w) (base := base) T
  refine T.F_bent.ok sc_bent (fun vs H Q E h => ?_) (fun cdv A outer s H vs Q E hr h => ?_)
  · obtain ⟨p, c, l, ln, lp, k, rs, as, names, pool, rfl, _⟩ := h
    rfl
  · obtain ⟨p, c, l, ln, lp, k, rs, as, names, pool, rfl, hB, hk, l1, l12, hg, kont⟩ := h
    refine ⟨_, (pss_cons (ps_set (i := 4) sc_bent.nd rfl (Or.inl rfl) (pe_call G_one_of (hr.mono (by decide)) (by rfl) T.g_one_of T.F_one_of.kp T.B_one_of .nil pass0 (pa_cons (pv 0) (pa_cons (pv 1) pa_nil))))
      (pss_cons (ps_set (i := 5) sc_bent.nd rfl (Or.inl rfl) (pe_call G_take (hr.mono (by decide)) (by rfl) T.g_take T.F_take.kp T.B_take .nil pass0 (pa_cons (pv 0) (pa_cons pe_int pa_nil))))
      (pss_cut (ps_if (pt_cmpR op_eq (pv 5) pe_int (nomark _)) (pss_cons (ps_asg (pe_call G_one_of (hr.mono (by decide)) (by rfl) T.g_one_of T.F_one_of.kp T.B_one_of .nil pass0 (pa_cons (pv 0) (pa_cons (pv 2) pa_nil))) (pg_sub (pv 4) pe_str (set_dict (hu_of hr))))
      (pss_one (ps_if (pt_cmpR op_eq (pe_dget (hu_of hr) (pv 4) pe_str (fun _ _ => rfl)) (pe_dget (hu_of hr) (pv 4) pe_str (fun _ _ => rfl)) (nomark _)) (pss_one (ps_asg pe_non (pg_sub (pv 4) pe_str (set_dict (hu_of hr))))) pss_nil))) pss_nil)
      (pss_cut (ps_if (pt_cmpR op_eq (pv 5) pe_int (nomark _)) (pss_one (ps_expr (pe_call G_based (hr.mono (by decide)) (by rfl) T.g_based T.F_based.kp T.B_based .nil pass0 (pa_cons (pv 0) (pa_cons (pv 4) (pa_cons (pv 2) pa_nil)))))) pss_nil)
      (pss_cut (ps_if (pt_cmpR op_eq (pv 5) pe_int (nomark _)) (pss_one (ps_expr (pe_call G_keyed (hr.mono (by decide)) (by rfl) T.g_keyed T.F_keyed.kp T.B_keyed .nil pass0 (pa_cons (pv 0) (pa_cons (pv 4) (pa_cons (pv 3) pa_nil)))))) pss_nil)
      (pss_cut (ps_if (PW.pt (pw_and (pt_cmpR op_in_seq (pv 5) (pe_lst (pa_cons pe_int (pa_cons pe_int pa_nil))) (by rfl)) (pw_and1 (pt_cmpR op_isN (pe_dget (hu_of hr) (pv 4) pe_str (fun _ _ => rfl)) pe_non (nomark _))))) (pss_cons (ps_asg pe_bl (pg_sub (pv 4) pe_str (set_dict (hu_of hr))))
      (pss_one (ps_asg pe_bl (pg_sub (pv 4) pe_str (set_dict (hu_of hr)))))) pss_nil)
      (pss_cut (ps_if (pt_cmpR op_eq (pv 5) pe_int (nomark _)) (pss_one (ps_expr (pe_call G_longer hr (by rfl) T.g_longer T.F_longer.kp T.B_longer .nil pass0 (pa_cons (pv 0) (pa_cons (pv 4) (pa_cons (pv 2) (pa_cons (pv 3) pa_nil))))))) pss_nil)
      (pss_cut (ps_if (pt_cmpR op_eq (pv 5) pe_int (nomark _)) (pss_one (ps_asg (pe_op op_cat (pe_dget (hu_of hr) (pv 4) pe_str (fun _ _ => rfl)) (pe_lst (pa_cons (pe_call G_field (hr.mono (by decide)) (by rfl) T.g_field T.F_field.kp T.B_field .nil pass0 (pa_cons (pv 0) (pa_cons (pe_call G_one_of (hr.mono (by decide)) (by rfl) T.g_one_of T.F_one_of.kp T.B_one_of .nil pass0 (pa_cons (pv 0) (pa_cons (pv 3) pa_nil))) (pa_cons (pv 2) (pa_cons (pv 3) (pa_cons pe_bl pa_nil)))))) pa_nil))) (pg_sub (pv 4) pe_str (set_dict (hu_of hr))))) pss_nil)
      (pss_one (ps_if (PW.pt (pw_and (pt_cmpR op_eq (pv 5) pe_int (nomark _)) (pw_and1 (pt_cmpR op_isN (pe_dget (hu_of hr) (pv 4) pe_str (fun _ _ => rfl)) pe_non (nomark _))))) (pss_cons (ps_asg (pe_not (pe_dget (hu_of hr) (pv 4) pe_str (fun _ _ => rfl))) (pg_sub (pv 4) pe_str (set_dict (hu_of hr))))
      (pss_cons (ps_asg pe_non (pg_sub (pv 4) pe_str (set_dict (hu_of hr))))
      (pss_cons (ps_asg pe_bl (pg_sub (pv 4) pe_str (set_dict (hu_of hr))))
      (pss_one (ps_asg pe_bl (pg_sub (pv 4) pe_str (set_dict (hu_of hr)))))))) pss_nil)))))))))), ?_⟩
    have las := hB.R.len
    refine q_any (oneV (K := K) rfl (ev_var rfl) hB.R.h hB.P (by omega) (by rw [List.length_map]; omega) (by rw [List.length_map]; omega) fun H1 v hv K1 P1 => ?_)
    obtain ⟨a, ham, rfl⟩ := List.mem_map.mp hv
    obtain ⟨i, ha⟩ := List.getElem?_of_mem ham
    have hil : i < rs.length := by rw [← las]; exact (List.getElem?_eq_some_iff.mp ha).1
    have hri : rs[i]? = some rs[i] := List.getElem?_eq_getElem hil
    have hgr := hg _ (List.getElem_mem hil)
    revert hri hgr
    generalize rs[i] = r
    intro hri hgr
    have l10 := hgr.l
    have hB1 := hB.pen K1 P1
    refine q_any (takeN (n := 8) rfl ev_c hB1.P (by omega) (by decide) (by decide) fun H2 d K2 P2 d0 d1 => ?_)
    have hB2 := hB1.pen K2 P2
    have hpre : ∀ r ∈ rs, RPre r := fun r hr' => (hg r hr').pre
    have Md : ∀ {W : Prop} (r' : Kd) (kk : Nat) {H' : Hp}, Bs K H' p c l ln lp kk (rs.set i r') as names pool → kk ≤ k + 80 → RPre r' → ¬ W → ∃ rs' kk, Bs K H' p c l ln lp kk rs' as names pool ∧ kk ≤ k + 80 ∧ rs'.length = rs.length ∧ (∀ r ∈ rs', RPre r) ∧ (W → rs' = rs ∧ kk ≤ k + 2) := fun r' kk H' hb hk' hp' nw => ⟨_, kk, hb, hk', by rw [List.length_set], fun s hs => (mem_set hs).elim (hpre s) fun z => by rw [z]; exact hp', fun z => absurd z nw⟩
    have deq : ∀ j : Int, decide (V.int d = V.int j) = decide (d = j) := fun j => decide_eq_decide.mpr ⟨fun z => V.int.inj z, fun z => congrArg V.int z⟩
    -- way 0
    refine q_cut (M := fun σ' H' => σ' = [some (.ref p), some (.ref l), some (.ref ln), some (.ref lp), some (.ref a), some (.int d)] ∧ ∃ rs' kk, Bs K H' p c l ln lp kk rs' as names pool ∧ kk ≤ k + 80 ∧ rs'.length = rs.length ∧ (∀ r ∈ rs', RPre r) ∧ (1 ≤ d → rs' = rs ∧ kk ≤ k + 2)) ?_ ?_
    · refine s_when (b := decide (d = 0)) (et_is (et_test (ev_op (ev_var rfl) ev_c (rv_eq rfl))) (deq 0)) (fun q H3 X3 => ?_) (fun q H3 X3 => ?_)
      · have hd := of_decide_eq_true q
        have hB3 := hB2.mono X3
        have n1 := hB3.S.n1
        refine oneV (K := K) rfl (ev_var rfl) hB3.S.hn hB3.P (by omega) (by rw [List.length_map]; omega) (by rw [List.length_map]; omega) fun H4 v hv K4 P4 => ?_
        obtain ⟨b, hb, rfl⟩ := List.mem_map.mp hv
        have kb := hB.S.kn b hb
        have hB4 := hB3.pen K4 P4
        refine bs_put (r' := { r with name := b }) hB4 ha hri rfl (fun o => rp_name) (ev_var rfl) fun H5 hB5 => ?_
        have hr5 := set_at (r' := { r with name := b }) hri
        have hrow5 := hB5.row ha hr5
        refine s_when (b := decide (r.base = some b)) (et_is (et_test (ev_op (ev_base (ev_var rfl) hrow5) (ev_name (ev_var rfl) hrow5) (rv_eq (by show scal (oV r.base) (.str b) = true; cases r.base <;> rfl)))) (by show decide (oV r.base = V.str b) = _; cases r.base <;> simp [oV])) (fun q2 H6 X6 => ?_) (fun q2 H6 X6 => ?_)
        · refine s_bs (r' := { r with name := b, base := none }) (hB5.mono X6) ha hr5 rfl (fun o => rp_base) ev_c (ev_var rfl) fun H7 hB7 => ?_
          rw [List.set_set] at hB7
          exact ⟨rfl, Md _ _ hB7 (by omega) ⟨kb, hgr.f, by show r.fields.length ≤ 11; omega, fun b z => (by cases z), hgr.h, hgr.k, hgr.g⟩ (by omega)⟩
        · have nb : r.base ≠ some b := of_decide_eq_false q2
          exact ⟨rfl, Md _ _ (hB5.mono X6) (by omega) ⟨kb, hgr.f, by show r.fields.length ≤ 11; omega, fun b' z => let ⟨q1, _, q3, q4⟩ := hgr.b b' z; ⟨q1, fun e => nb (by rw [show b = b' from e.symm]; exact z), q3, q4⟩, hgr.h, hgr.k, hgr.g⟩ (by omega)⟩
      · exact ⟨rfl, rs, _, hB2.mono X3, by omega, rfl, hpre, fun _ => ⟨rfl, by omega⟩⟩
    rintro σ' H3 ⟨rfl, rs', kk, hB3, kk80, ll, hpre', hW⟩
    -- way 1
    refine q_cut (M := fun σ' H' => σ' = [some (.ref p), some (.ref l), some (.ref ln), some (.ref lp), some (.ref a), some (.int d)] ∧ ∃ rs' kk, Bs K H' p c l ln lp kk rs' as names pool ∧ kk ≤ k + 80 ∧ rs'.length = rs.length ∧ (∀ r ∈ rs', RPre r) ∧ (2 ≤ d → rs' = rs ∧ kk ≤ k + 2)) ?_ ?_
    · refine s_when (b := decide (d = 1)) (et_is (et_test (ev_op (ev_var rfl) ev_c (rv_eq rfl))) (deq 1)) (fun q H4 X4 => ?_) (fun q H4 X4 => ?_)
      · have hd := of_decide_eq_true q
        obtain ⟨rfl, kk2⟩ := hW (by omega)
        exact ⟨_, rfl, _, rfl, _, rfl, p, c, l, ln, lp, a, kk, i, rs', as, names, pool, r, rfl, hB3.mono X4, by omega, ha, hri, hgr, fun H5 r' hB5 hp5 => ⟨rfl, Md r' _ hB5 (by omega) hp5 (by omega)⟩⟩
      · exact ⟨rfl, rs', kk, hB3.mono X4, kk80, ll, hpre', fun z => hW (by omega)⟩
    clear hW hpre' ll kk80 hB3 kk rs'
    rintro σ' H3 ⟨rfl, rs', kk, hB3, kk80, ll, hpre', hW⟩
    -- way 2
    refine q_cut (M := fun σ' H' => σ' = [some (.ref p), some (.ref l), some (.ref ln), some (.ref lp), some (.ref a), some (.int d)] ∧ ∃ rs' kk, Bs K H' p c l ln lp kk rs' as names pool ∧ kk ≤ k + 80 ∧ rs'.length = rs.length ∧ (∀ r ∈ rs', RPre r) ∧ (3 ≤ d → rs' = rs ∧ kk ≤ k + 2)) ?_ ?_
    · refine s_when (b := decide (d = 2)) (et_is (et_test (ev_op (ev_var rfl) ev_c (rv_eq rfl))) (deq 2)) (fun q H4 X4 => ?_) (fun q H4 X4 => ?_)
      · have hd := of_decide_eq_true q
        obtain ⟨rfl, kk2⟩ := hW (by omega)
        exact ⟨_, rfl, _, rfl, _, rfl, p, c, l, ln, lp, a, kk, i, rs', as, names, pool, r, rfl, hB3.mono X4, by omega, ha, hri, hgr, fun H5 r' hB5 hp5 => ⟨rfl, Md r' _ hB5 (by omega) hp5 (by omega)⟩⟩
      · exact ⟨rfl, rs', kk, hB3.mono X4, kk80, ll, hpre', fun z => hW (by omega)⟩
    clear hW hpre' ll kk80 hB3 kk rs'
    rintro σ' H3 ⟨rfl, rs', kk, hB3, kk80, ll, hpre', hW⟩
    -- ways 3, 4
    refine q_cut (M := fun σ' H' => σ' = [some (.ref p), some (.ref l), some (.ref ln), some (.ref lp), some (.ref a), some (.int d)] ∧ ∃ rs' kk, Bs K H' p c l ln lp kk rs' as names pool ∧ kk ≤ k + 80 ∧ rs'.length = rs.length ∧ (∀ r ∈ rs', RPre r) ∧ (5 ≤ d → rs' = rs ∧ kk ≤ k + 2)) ?_ ?_
    · obtain ⟨r3, hr3⟩ : ∃ r3, rs'[i]? = some r3 := ⟨_, List.getElem?_eq_getElem (by omega : i < rs'.length)⟩
      have hrow3 := hB3.row ha hr3
      refine s_when (b := decide (d = 3 ∨ d = 4) && decide (r3.base = none)) (et_and (et_is (et_test (ev_opL (xs := [.int 3, .int 4]) (ev_var rfl) (el_lst (ea_cons ev_c (ea_cons ev_c ea_nil)) (Nat.le_of_ble_eq_true rfl)) fun q H4 h4 X4 => rv_inL (K := K) (neg := false) (sq_of h4) rfl rfl)) (by
        show inV (.int d) (([3, 4] : List Int).map V.int) = _
        rw [Way.inV_ints, Bool.eq_iff_iff]; simp)) fun _ => et_is (et_test (ev_op (ev_base (ev_var rfl) hrow3) ev_c rv_isN)) (by cases r3.base <;> rfl)) (fun q H4 X4 => ?_) (fun q H4 X4 => ?_)
      · rw [Bool.and_eq_true, decide_eq_true_eq, decide_eq_true_eq] at q
        obtain ⟨rfl, kk2⟩ := hW (by omega)
        rw [hri] at hr3
        cases hr3
        refine q_bs (r' := { r with frozen := true }) (hB3.mono X4) ha hri rfl (fun o => rp_frozen) ev_c (ev_var rfl) fun H5 hB5 => ?_
        have hr5 := set_at (r' := { r with frozen := true }) hri
        refine s_bs (r' := { r with frozen := true, heirs := false }) hB5 ha hr5 rfl (fun o => rp_heirs) ev_c (ev_var rfl) fun H6 hB6 => ?_
        rw [List.set_set] at hB6
        exact ⟨rfl, Md _ _ hB6 (by omega) ⟨hgr.n, hgr.f, by show r.fields.length ≤ 11; omega, fun b z => (by have z' : r.base = some b := z; rw [q.2] at z'; cases z'), fun z => (by cases z), hgr.k, hgr.g⟩ (by omega)⟩
      · exact ⟨rfl, rs', kk, hB3.mono X4, kk80, ll, hpre', fun z => hW (by omega)⟩
    clear hW hpre' ll kk80 hB3 kk rs'
    rintro σ' H3 ⟨rfl, rs', kk, hB3, kk80, ll, hpre', hW⟩
    -- way 5
    refine q_cut (M := fun σ' H' => σ' = [some (.ref p), some (.ref l), some (.ref ln), some (.ref lp), some (.ref a), some (.int d)] ∧ ∃ rs' kk, Bs K H' p c l ln lp kk rs' as names pool ∧ kk ≤ k + 80 ∧ rs'.length = rs.length ∧ (∀ r ∈ rs', RPre r) ∧ (6 ≤ d → rs' = rs ∧ kk ≤ k + 2)) ?_ ?_
    · refine s_when (b := decide (d = 5)) (et_is (et_test (ev_op (ev_var rfl) ev_c (rv_eq rfl))) (deq 5)) (fun q H4 X4 => ?_) (fun q H4 X4 => ?_)
      · have hd := of_decide_eq_true q
        obtain ⟨rfl, kk2⟩ := hW (by omega)
        exact ⟨_, rfl, _, rfl, _, rfl, _, rfl, p, c, l, ln, lp, a, kk, i, rs', as, names, pool, r, rfl, hB3.mono X4, by omega, ha, hri, fun H5 fs hB5 hl5 hf5 => ⟨rfl, Md _ _ hB5 (by omega) ⟨hgr.n, hf5, by show fs.length ≤ 11; omega, hgr.b, hgr.h, hgr.k, hgr.g⟩ (by omega)⟩⟩
      · exact ⟨rfl, rs', kk, hB3.mono X4, kk80, ll, hpre', fun z => hW (by omega)⟩
    clear hW hpre' ll kk80 hB3 kk rs'
    rintro σ' H3 ⟨rfl, rs', kk, hB3, kk80, ll, hpre', hW⟩
    -- way 6
    refine q_cut (M := fun σ' H' => σ' = [some (.ref p), some (.ref l), some (.ref ln), some (.ref lp), some (.ref a), some (.int d)] ∧ ∃ rs' kk, Bs K H' p c l ln lp kk rs' as names pool ∧ kk ≤ k + 80 ∧ rs'.length = rs.length ∧ (∀ r ∈ rs', RPre r) ∧ (7 ≤ d → rs' = rs ∧ kk ≤ k + 2)) ?_ ?_
    · refine s_when (b := decide (d = 6)) (et_is (et_test (ev_op (ev_var rfl) ev_c (rv_eq rfl))) (deq 6)) (fun q H4 X4 => ?_) (fun q H4 X4 => ?_)
      · have hd := of_decide_eq_true q
        obtain ⟨rfl, kk2⟩ := hW (by omega)
        have hB4 := hB3.mono X4
        obtain ⟨a', o, xs, e, d1, d2, d3⟩ := hB4.row ha hri
        cases e
        have lxs : xs.length = r.fields.length := Paired.length d3
        have p14 := hB4.S.p1
        refine (ev_dgetK (ev_var rfl) ev_c d1 rk_own : Ev _ _ H4 _) H4 (Ex.refl H4) _ fun H5 X5 => ⟨_, rfl, ?_⟩
        have hB5 := hB4.mono X5
        refine oneV (K := K) rfl (ev_var rfl) hB5.S.hp hB5.P (by omega) (by rw [List.length_map]; omega) (by rw [List.length_map]; omega) fun H6 v hv K6 P6 => ?_
        obtain ⟨y, hy, rfl⟩ := List.mem_map.mp hv
        have hB6 := hB5.pen K6 P6
        refine ⟨_, rfl, _, rfl, p, c, ln, lp, kk + 1, y, names, pool, false, rfl, hB6.P, by omega, hB6.S, hB.S.fn y hy, fun H7 v f K7 P7 hft hfg _ _ _ => ?_⟩
        have hB7 := hB6.pen K7 P7
        obtain ⟨a', o', xs', e, d1', d2', d3'⟩ := hB7.row ha hri
        cases e
        have eo : o' = o := by
          have h7 := K7 _ _ (row_ne hB6.P (K6 _ _ (row_ne hB5.P (X5 _ _ d1)) (X5 _ _ d1))) (K6 _ _ (row_ne hB5.P (X5 _ _ d1)) (X5 _ _ d1))
          rw [d1'] at h7
          exact kdK_own (HO.dK.inj (Option.some.inj h7))
        subst eo
        have lxs' : xs'.length = r.fields.length := Paired.length d3'
        refine ⟨by show 1 ≤ sizeLine; decide, fun t ht => ⟨o', t, xs', [v], rfl, rfl, (Ex.new ht) _ _ d2', upd_same, sz_of (by show _ + 1 ≤ _; omega), fun t2 ht2 => ?_⟩⟩
        have X8 : Ex H7 (upd (upd H7 t (.lst [v])) t2 (.lst (xs' ++ [v]))) := (Ex.new ht).trans (Ex.new ht2)
        refine bs_own (fs := r.fields ++ [f]) (hB7.mono X8) ha hri upd_same (pr_snoc (Paired.mapP d3' fun _ _ z => ftAt_mono _ _ _ _ X8 z) (ftAt_mono _ _ _ _ X8 hft)) (ev_var rfl) fun H9 hB9 => ?_
        refine ⟨rfl, Md _ _ hB9 (by omega) ⟨hgr.n, fun g hg' => ?_, by show (r.fields ++ [f]).length ≤ 11; rw [List.length_append]; show _ + 1 ≤ _; omega, hgr.b, hgr.h, hgr.k, hgr.g⟩ (by omega)⟩
        rcases List.mem_append.mp hg' with z | z
        · exact hgr.f g z
        · rw [List.mem_singleton.mp z]; exact hfg
      · exact ⟨rfl, rs', kk, hB3.mono X4, kk80, ll, hpre', fun z => hW (by omega)⟩
    clear hW hpre' ll kk80 hB3 kk rs'
    rintro σ' H3 ⟨rfl, rs', kk, hB3, kk80, ll, hpre', hW⟩
    -- way 7
    obtain ⟨r3, hr3⟩ : ∃ r3, rs'[i]? = some r3 := ⟨_, List.getElem?_eq_getElem (by omega : i < rs'.length)⟩
    have hrow3 := hB3.row ha hr3
    refine s_when (b := decide (d = 7) && decide (r3.base = none)) (et_and (et_is (et_test (ev_op (ev_var rfl) ev_c (rv_eq rfl))) (deq 7)) fun _ => et_is (et_test (ev_op (ev_base (ev_var rfl) hrow3) ev_c rv_isN)) (by cases r3.base <;> rfl)) (fun q H4 X4 => ?_) (fun q H4 X4 => ?_)
    · rw [Bool.and_eq_true, decide_eq_true_eq, decide_eq_true_eq] at q
      obtain ⟨rfl, kk2⟩ := hW (by omega)
      rw [hri] at hr3
      cases hr3
      have hB4 := hB3.mono X4
      refine q_bs (r' := { r with heirs := !r.heirs }) hB4 ha hri rfl (fun o => rp_heirs) (ev_notV (ev_heirs (ev_var rfl) (hB4.row ha hri))) (ev_var rfl) fun H5 hB5 => ?_
      have hr5 := set_at (r' := { r with heirs := !r.heirs }) hri
      refine q_bs (r' := { r with heirs := !r.heirs, key := none }) hB5 ha hr5 rfl (fun o => rp_key) ev_c (ev_var rfl) fun H6 hB6 => ?_
      rw [List.set_set] at hB6
      have hr6 := set_at (r' := { r with heirs := !r.heirs, key := none }) hri
      refine q_bs (r' := { r with heirs := !r.heirs, key := none, registered := false }) hB6 ha hr6 rfl (fun o => rp_registered) ev_c (ev_var rfl) fun H7 hB7 => ?_
      rw [List.set_set] at hB7
      have hr7 := set_at (r' := { r with heirs := !r.heirs, key := none, registered := false }) hri
      refine s_bs (r' := { r with heirs := !r.heirs, key := none, registered := false, frozen := false }) hB7 ha hr7 rfl (fun o => rp_frozen) ev_c (ev_var rfl) fun H8 hB8 => ?_
      rw [List.set_set] at hB8
      obtain ⟨rs2, k2, h1, h2, h3, h4, _⟩ := Md (W := False) { r with heirs := !r.heirs, key := none, registered := false, frozen := false } _ hB8 (by omega) ⟨hgr.n, hgr.f, by show r.fields.length ≤ 11; omega, fun b z => (by have z' : r.base = some b := z; rw [q.2] at z'; cases z'), fun _ => ⟨rfl, rfl⟩, fun k z => (by cases z), fun z => (by cases z)⟩ id
      exact kont H8 rs2 (h1.le h2) h3 h4
    · exact kont H4 rs' ((hB3.mono X4).le kk80) ll hpre'
end
end K03

namespace K03
open PySem L2 Way Evl
/-! kinds without fields, too many of them; what is no list of kinds -/
theorem knd_core {K : PySem.W.Frag} {CF CK CB x dx : Addr} {H2 : Hp} {b : Bool} {fl : V} {r : Kd} {Q : Hp → Prop} {E : XK} (hx : H2 x = none) (hd : H2 dx = none) (hn : dx ≠ x) (hg : RGood r) (hfv : FvAt K CF (.seq b (r.fields.map .fld)) fl H2) (kq : ∀ H', Ex H2 H' → KAt K CF CK r (.ref x) H' → Q H') :
    spKnd K CF CK CB [.ref x, .str r.name, fl, oV r.base, .bl r.frozen, .bl r.heirs, oV r.key, .bl r.registered] (upd (upd H2 dx (.own x)) x (.ins CK dx [])) (fun v H3 => v = .non ∧ Q H3) E := by
  have X : Ex H2 (upd (upd H2 dx (.own x)) x (.ins CK dx [])) := fun b o e => by
    rw [upd_ne (ne_of_none e hx), upd_ne (ne_of_none e hd)]; exact e
  have pb : PV K (upd (upd H2 dx (.own x)) x (.ins CK dx [])) (oV r.base) (oD r.base) := pv_oo (by
    cases e : r.base with
    | none => rfl
    | some b => exact knS_pl (hg.b b e).1)
  have pk : PV K (upd (upd H2 dx (.own x)) x (.ins CK dx [])) (oV r.key) (oD r.key) := pv_oo (by
    cases e : r.key with
    | none => rfl
    | some b => exact fnS_pl (hg.k b e))
  exact ⟨x, dx, _, _, _, _, _, _, _, _, _, _, _, _, _, _, rfl, upd_same, .dp (.str _) (knS_pl hg.n), fvAt_mono _ _ _ _ X hfv, pb, .dp (.bl _) rfl, .dp (.bl _) rfl, pk, .dp (.bl _) rfl, fun kd hk hr' H' k hK => ⟨rfl, kq H' (fun b o e => k b o (ne_of_none e hx) (X b o e)) (by rw [kdd_inj hk] at hK; exact hK)⟩, fun hr' => by rw [hg.kr] at hr'; cases hr'⟩
/-- a kind with a name alone -/
def plainK (x : Str) : Kd := ⟨x, [], none, false, false, none, false⟩
theorem plain_good {x : Str} (h : knS x = true) : RGood (plainK x) := ⟨h, fun f z => (by cases z), Nat.zero_le _, List.nodup_nil, fun b z => (by cases z), fun z => (by cases z), fun k z => (by cases z), fun z => (by cases z)⟩
theorem plain_nms (ws : List Str) : nms (ws.map plainK) = ws := by unfold nms; rw [List.map_map]; exact List.map_id ws
theorem plain_res {ws : List Str} (nd : ws.Nodup) {x : Str} (hx : x ∈ ws) : hres (ws.map plainK) (.str x) = .fine := by
  have efb : fb (nms (ws.map plainK)) [] (ws.map plainK) = none := fb_none fun j k' hk' => by
    rw [List.nil_append, plain_nms]
    rw [List.getElem?_map] at hk'
    cases e : ws[j]? with
    | none => rw [e] at hk'; cases hk'
    | some y =>
      rw [e] at hk'
      cases hk'
      have hj := (List.getElem?_eq_some_iff.mp e).1
      have n1 : y ∉ ws.take j := fun z => by
        have e1 : ws = ws.take j ++ y :: ws.drop (j + 1) := by
          have : y = ws[j] := (Option.some.inj (e.symm.trans (List.getElem?_eq_getElem hj)))
          rw [this, ← List.drop_eq_getElem_cons hj, List.take_append_drop]
        rw [e1, List.nodup_append] at nd
        exact nd.2.2 _ z _ (List.mem_cons_self ..) rfl
      have n2 : decide ((plainK y).name ∈ ((ws.map plainK).take j).map Kd.name) = false := by
        refine decide_eq_false ?_
        rw [← List.map_take, show ((ws.take j).map plainK).map Kd.name = ws.take j from plain_nms _]
        exact n1
      simp only [fitsK, n2]
      rfl
  have efw : firstWrong (ws.map plainK) (ws.map plainK) = none := wrong_none fun j k' hk' => by
    rw [List.getElem?_map] at hk'
    cases e : ws[j]? with
    | none => rw [e] at hk'; cases hk'
    | some y => rw [e] at hk'; cases hk'; rfl
  have er : rootOk (ws.map plainK) (.str x) = true := by
    have := kfind_self (ks := ws.map plainK) (k := plainK x) (by rw [plain_nms]; exact nd) (List.mem_map_of_mem hx)
    unfold rootOk
    rw [show (plainK x).name = x from rfl] at this
    simp only [this]
    rfl
  unfold hres
  rw [efb]
  simp only [efw, er, if_true]
theorem hs_many {K : PySem.W.Frag} {CF CK CH CB x dx a : Addr} {b : Bool} {H2 : Hp} {rv : V} {dr : PyData} {ks : List Kd} {xs : List V} {E : XK} {Q : VK} (hx : H2 x = none) (hd : H2 dx = none) (hn : dx ≠ x) (pr : PV K H2 rv dr) (hs : SqB K H2 b a xs) (hp : Paired (fun x k => KAt K CF CK k x H2) xs ks) (hg : ∀ k ∈ ks, KGood k) (l12 : 12 < ks.length) (l100 : ks.length ≤ 100)
    (kk : ∀ d H', Ex H2 H' → H' d = some (.xd [("name", .non)]) → E (.ref CB) (some d) H') :
    spHi K CF CK CH CB [.ref x, rv, .ref a] (upd (upd H2 dx (.own x)) x (.ins CH dx [])) Q E := by
  have X : Ex H2 (upd (upd H2 dx (.own x)) x (.ins CH dx [])) := fun b o e => by
    rw [upd_ne (ne_of_none e hx), upd_ne (ne_of_none e hd)]; exact e
  have lx : xs.length = ks.length := Paired.length hp
  refine ⟨x, dx, rv, _, dr, rfl, upd_same, pr.mono X, .inr ⟨a, b, xs, ks.map some, rfl, hs.mono X, ?_, fun kd hk => ?_, by omega, fun _ d H' e hd' => kk d H' (X.trans e) hd', fun ks' e h1 h2 => ?_⟩⟩
  · clear hg l12 l100 lx hs
    induction hp with
    | nil => exact .nil
    | cons h _ ih => exact .cons (h.mono X) ih
  · obtain ⟨k, hk', e⟩ := List.mem_map.mp hk
    exact Option.some.inj e ▸ hg k hk'
  · have e' : ks' = ks := ((List.map_inj_right (fun x y z => Option.some.inj z)).mp e).symm
    subst e'
    omega
/-- what is no kind in a list -/
inductive OddE (K : PySem.W.Frag) (CF : Addr) (v : V) (H : Hp) : Prop
  | dat (d : PyData) (p : PV K H v d)
  | fld (f : Fd) (p : FAt K CF f v H)
  | lst (a : Addr) (xs : List V) (e : v = .ref a) (h : H a = some (.lst xs))
def Ke2 (K : PySem.W.Frag) (CF CK : Addr) : Option Kd → V → Hp → Prop
  | some k, v, H => KAt K CF CK k v H
  | none, v, H => OddE K CF v H
theorem ke2_mono {K : PySem.W.Frag} {CF CK : Addr} : Mon (Ke2 K CF CK) := fun e v H H' x h => by
  cases e with
  | some k => exact KAt.mono x h
  | none => cases (h : OddE K CF v H) with
    | dat d p => exact OddE.dat d (p.mono x)
    | fld f p => exact OddE.fld f (p.mono x)
    | lst a xs e h => exact OddE.lst a xs e (x _ _ h)
theorem ke_of {P : Program} {K : PySem.W.Frag} {mg : Str → Option Value} (T : Txt P K mg) {e : Option Kd} {v : V} {H : Hp} (h : Ke2 K T.C_Field T.C_Kind e v H) : KeAt K T.C_Field T.C_Kind e v H := by
  cases e with
  | some k => exact h
  | none => cases (h : OddE K T.C_Field v H) with
    | dat d p =>
      obtain ⟨l, m1, m2⟩ := noC_mro d
      exact ⟨_, fun H1 e => (p.mono e).ty, kit_no T.ic_Kind T.cl_Kind m1 m2⟩
    | fld f p =>
      obtain ⟨a, dx, fs, wt, rfl, h2, _⟩ := p
      exact ⟨_, fun H1 e => T.ic_Field.ty T.cl_Field (e _ _ h2), T.nf_Kind.k T.ic_Kind T.cl_Kind⟩
    | lst a xs e h =>
      subst e
      obtain ⟨l, m1, m2⟩ := noC_mro (.list [])
      exact ⟨.type "list", fun H1 e => .base (.lst (e _ _ h)), kit_no T.ic_Kind T.cl_Kind m1 m2⟩
theorem kpI_pen {K : PySem.W.Frag} {H H' : Hp} {p c : Addr} {k : Nat} (hP : Pen H p c k) (kp : Kp p H H') : KpI K H H' := by
  obtain ⟨_, _, _, _, _, _, hpen, _⟩ := hP
  exact KpI.kp (K := K) kp (fun C dx fs q => by rw [hpen] at q; cases q) (fun xs q => by rw [hpen] at q; cases q) fun o u q => by rw [hpen] at q; cases q
theorem lst_pen {H H' : Hp} {p c a : Addr} {k : Nat} {xs : List V} (hP : Pen H p c k) (kp : Kp p H H') (h : H a = some (.lst xs)) : H' a = some (.lst xs) := by
  obtain ⟨kv, hk⟩ := hP.here
  exact kp _ _ (fun e => by rw [e, hk] at h; cases h) h
theorem pen_off {H : Hp} {p c : Addr} {k : Nat} (hP : Pen H p c k) : Off H p := by
  obtain ⟨_, _, _, _, _, _, hpen, _⟩ := hP
  exact off_pen hpen
theorem ke2_pen {K : PySem.W.Frag} {CF CK : Addr} {H H' : Hp} {p c : Addr} {k : Nat} (hP : Pen H p c k) (kp : Kp p H H') {e : Option Kd} {v : V} (h : Ke2 K CF CK e v H) : Ke2 K CF CK e v H' := by
  cases e with
  | some kd => exact KAt.keep (kpI_pen hP kp) h
  | none => cases (h : OddE K CF v H) with
    | dat d p => exact OddE.dat d (p.kp (pen_off hP) kp)
    | fld f p => exact OddE.fld f (FAt.keep (kpI_pen hP kp) p)
    | lst a xs e h => exact OddE.lst a xs e (lst_pen hP kp h)
/-- what is no list of kinds, as a house sees it -/
inductive OddK (K : PySem.W.Frag) (CF CK : Addr) (v : V) (H : Hp) : Prop
  | dat (d : PyData) (p : PV K H v d) (s : isSq d = false)
  | knd (k : Kd) (p : KAt K CF CK k v H)
  | dct (a : Addr) (kvs : List (Key × V)) (e : v = .ref a) (h : H a = some (.dK kvs)) (l : kvs.length ≤ 1)
  | seq (a : Addr) (b : Bool) (xs : List V) (es : List (Option Kd)) (e : v = .ref a) (h : SqB K H b a xs) (p : Paired (fun x e => Ke2 K CF CK e x H) xs es) (g : ∀ kd, some kd ∈ es → KGood kd) (l : xs.length ≤ 300) (w : es.length = 0 ∨ none ∈ es)
theorem OddK.mono {K : PySem.W.Frag} {CF CK : Addr} {v : V} {H H' : Hp} (e : Ex H H') (h : OddK K CF CK v H) : OddK K CF CK v H' := by
  cases h with
  | dat d p s => exact .dat d (p.mono e) s
  | knd k p => exact .knd k (p.mono e)
  | dct a kvs e1 h l => exact .dct a kvs e1 (e _ _ h) l
  | seq a b xs es e1 h p g l w => exact .seq a b xs es e1 (h.mono e) (Paired.mapP p fun _ _ z => ke2_mono _ _ _ _ e z) g l w
theorem OddK.pen {K : PySem.W.Frag} {CF CK : Addr} {v : V} {H H' : Hp} {p c : Addr} {k : Nat} (hP : Pen H p c k) (kp : Kp p H H') (h : OddK K CF CK v H) : OddK K CF CK v H' := by
  cases h with
  | dat d q s => exact .dat d (q.kp (pen_off hP) kp) s
  | knd k q => exact .knd k (KAt.keep (kpI_pen hP kp) q)
  | dct a kvs e1 h l =>
    refine .dct a kvs e1 (kp _ _ (fun e => ?_) h) l
    obtain ⟨_, _, _, _, _, _, hpen, _⟩ := hP
    rw [e, hpen] at h
    have := congrArg List.length (HO.dK.inj (Option.some.inj h))
    simp [penK] at this
    omega
  | seq a b xs es e1 h q g l w =>
    refine .seq a b xs es e1 ?_ (Paired.mapP q fun _ _ z => ke2_pen hP kp z) g l w
    cases b with
    | true => exact lst_pen hP kp h
    | false => exact sqT_pen hP kp h
theorem hs_odd {P : Program} {K : PySem.W.Frag} {mg : Str → Option Value} (T : Txt P K mg) {x dx : Addr} {H2 : Hp} {rv kv : V} {dr : PyData} {E : XK} {Q : VK} (hx : H2 x = none) (hd : H2 dx = none) (hn : dx ≠ x) (pr : PV K H2 rv dr) (ho : OddK K T.C_Field T.C_Kind kv H2)
    (kk : ∀ d H', Ex H2 H' → H' d = some (.xd [("name", .non)]) → E (.ref T.C_BadHouse) (some d) H') :
    spHi K T.C_Field T.C_Kind T.C_House T.C_BadHouse [.ref x, rv, kv] (upd (upd H2 dx (.own x)) x (.ins T.C_House dx [])) Q E := by
  have X : Ex H2 (upd (upd H2 dx (.own x)) x (.ins T.C_House dx [])) := fun b o e => by
    rw [upd_ne (ne_of_none e hx), upd_ne (ne_of_none e hd)]; exact e
  refine ⟨x, dx, rv, _, dr, rfl, upd_same, pr.mono X, ?_⟩
  have kk' : ∀ d H', Ex (upd (upd H2 dx (.own x)) x (.ins T.C_House dx [])) H' → H' d = some (.xd [("name", .non)]) → E (.ref T.C_BadHouse) (some d) H' := fun d H' e hd' => kk d H' (X.trans e) hd'
  cases ho.mono X with
  | dat d p s => exact .inl ⟨.type (tyD d), fun H1 e => (p.mono e).ty, by rw [kd_sq, s], kk'⟩
  | knd k p =>
    obtain ⟨a, dy, fs, ft, zs, rfl, g1, _⟩ := p
    exact .inl ⟨_, fun H1 e => T.ic_Kind.ty T.cl_Kind (e _ _ g1), T.ns_Kind.k, kk'⟩
  | dct a kvs e1 h l =>
    subst e1
    exact .inl ⟨.type "dict", fun H1 e => .base (.dK (e _ _ h)), kd_sq (d := .dict []), kk'⟩
  | seq a b xs es e1 h p g l w =>
    subst e1
    refine .inr ⟨a, b, xs, es, rfl, h, Paired.mapP p fun _ _ z => ke_of T z, g, by omega, fun _ => kk', fun ks e h1 _ => ?_⟩
    subst e
    exfalso
    rcases w with w | w
    · rw [List.length_map] at w; omega
    · obtain ⟨k, _, z⟩ := List.mem_map.mp w
      cases z
section
variable {H : Hp} {σ : L2.St} {C : Addr} {sp : Sp} {D : Ends} {t : TA} {vs : List V}
theorem s_mkAD {j : Nat} {E : L2.St → XK} {dvs : List V} (h1 : EvA t σ H vs) (k : ∀ H2, Ex H H2 → ∀ x dx, H2 x = none → H2 dx = none → dx ≠ x → sp (.ref x :: (vs ++ dvs)) (upd (upd H2 dx (.own x)) x (.ins C dx [])) (fun v H3 => v = .non ∧ D.nx (σ.set j (some (.ref x))) H3) (E σ)) :
    tAsg (tMakeSD C sp dvs E t) (gName j) D σ H := h1 H (Ex.refl H) _ fun H1 X1 x dx hx hd hn => k H1 X1 x dx hx hd hn
end
def spCnt (K : PySem.W.Frag) : Sp := fun vs H Q _ => ∃ (p c : Addr) (k n : Nat), vs = [.ref p, .int (n : Int)] ∧ Pen H p c k ∧ k ≤ 60000 ∧ (n = 12 ∨ n = 13) ∧ ∀ H', Q (.bl true) H'
section
variable {P : Program} {w : World} {K : PySem.W.Frag} {mg : Str → Option Value} {base : Heap}
theorem ok_counted (T : Txt P K mg) : FnOk P w K mg base CX0 10 T.f_counted T.d_counted P_counted (spCnt K) := by
  have G_kind_names := ok_kind_names (P := P) (w := w) (base := base) T
  have G_take := ok_take (P := P) (w := w) (base := base) T
  have G_Kind_init := ok_Kind_init (P := P) (w := w) (base := base) T
  have G_House_init := ok_House_init (P := P) (w := w) (base := base) T
  have G_House_len := ok_House_len (P := P) (w := w) (base := base) T
  obtain ⟨dsK, bd_Kind_init⟩ := bdK T
  refine T.F_counted.ok sc_counted (fun vs H Q E h => ?_) (fun cdv A outer s H vs Q E hr h => ?_)
  · obtain ⟨p, c, k, n, rfl, _⟩ := h
    rfl
  · obtain ⟨p, c, k, n, rfl, hP, hk, hn, kont⟩ := h
    refine ⟨_, (pss_cons (ps_set (i := 2) sc_counted.nd rfl (Or.inl rfl) (pe_call G_kind_names (hr.mono (by decide)) (by rfl) T.g_kind_names T.F_kind_names.kp T.B_kind_names .nil pass0 (pa_cons (pv 0) (pa_cons (pv 1) pa_nil))))
      (pss_cons (ps_setLc (i := 3) (own := [("_law_word_here", 6)]) (g := gName 6) (by rfl) sc_counted.nd rfl rfl (sw_true rfl rfl rfl (by decide +kernel)) (pi_list (pv 2)) (blkOk_by (own := [("_law_word_here", 6)]) (N := N_counted) (sc := defScope s_counted) (by decide +kernel)) (fun _ _ _ _ _ => (pg_name (i := 6) sc_counted.nd rfl (Or.inl rfl))) (fun _ _ _ _ _ => pts_nil) (fun _ _ _ _ _ => (pe_make T.M_Kind G_Kind_init (hr.mono (by decide)) (by rfl) T.g_Kind bd_Kind_init.2 bd_Kind_init.1 L2.passL (pa_cons (pv 6) (pa_cons (pe_lst pa_nil) pa_nil)))))
      (pss_cut (ps_if (pt_cmpR op_eq (pe_call G_take (hr.mono (by decide)) (by rfl) T.g_take T.F_take.kp T.B_take .nil pass0 (pa_cons (pv 0) (pa_cons pe_int pa_nil))) pe_int (nomark _)) (pss_one (ps_set (i := 3) sc_counted.nd rfl (Or.inl rfl) (pe_callTy call_tuple_of (by rfl) T.b_tuple (by decide +kernel) (pa_cons (pv 3) pa_nil)))) pss_nil)
      (pss_cons (ps_try_as (i := 5) rfl rfl sc_counted.nd rfl rfl ⟨by rfl, by decide, .inl T.g_BadHouse⟩ Way.takes0 (fun W pn xe tk po => (pss_one (ps_set (i := 4) sc_counted.nd rfl (Or.inl rfl) (Way.pe_makeSD T.M_House G_House_init (hr.mono (by decide)) (by rfl) T.g_House T.B_House_init .nil (fun σ => passAt tk σ) (pa_cons (pe_ix (Way.kk_ixL (K := K)) (pv 2) (pe_op op_sub (pv 1) pe_int) (fun _ _ => rfl)) (pa_cons (pv 3) pa_nil)))))) (fun a oe cls d pn hz hf => (pss_one (ps_ret (pe_and (pe_cmpR op_eq (pv 1) pe_int (nomark _)) (pe_one (pe_cmpR op_isN (pe_xf T.X_BadHouse.xf T.na_BadHouse_name hz hf (pv 5)) pe_non (nomark _))))))))
      (pss_one (ps_ret (pe_and (pe_cmpR op_eq (pv 1) pe_int (nomark _)) (pe_one (pe_cmpR op_eq (pe_callB (Way.call_lenO G_House_len T.m_House_len.at_ T.m_House_len.fn T.B_House_len pass0 (hr.mono (by decide))) (by rfl) T.b_len (by decide +kernel) (pa_cons (pv 4) pa_nil)) pe_int (nomark _)))))))))), ?_⟩
    have n13 : 12 ≤ n ∧ n ≤ 13 := by omega
    refine q_any ⟨_, rfl, _, rfl, p, c, k, n, rfl, hP, by omega, by omega, fun lw H1 ws hlw K1 P1 h1 hlen hkn hnd => ?_⟩
    have nlw : lw ≠ p := hP.ne hlw
    have hws : LAt (fun (x : Str) (v : V) (_ : Hp) => v = .str x) ws (.ref lw) H1 := ⟨lw, _, rfl, h1, by
      clear h1 hlen hkn hnd
      induction ws with
      | nil => exact .nil
      | cons a r ih => exact .cons rfl ih⟩
    refine n_asg (P := LAt (KAt K T.C_Field T.C_Kind) (ws.map plainK)) (en_mapL (K := K) (α := Str) (β := Kd) (P := fun x v _ => v = .str x) (R := KAt K T.C_Field T.C_Kind) (c := plainK) (fun _ _ _ _ _ z => z) kat_stay (ev_var rfl) hws (by omega) (fun _ => rfl) fun v x H2 X2 hx hv => ?_) fun kl H2 hkl X2 hks => ?_
    · subst hv
      intro H3 X3 Q' q'
      refine ⟨_, rfl, (el_lst ea_nil (Nat.zero_le _) : EvL _ _ H3 _) H3 (Ex.refl H3) _ fun fl H4 hfl X4 h4 => fun x' dx hx' hd hne => ?_⟩
      exact knd_core (K := K) (CB := T.C_BadKind) (r := plainK x) (b := true) hx' hd hne (plain_good (hkn x hx)) ⟨fl, [], rfl, h4, .nil⟩ fun H' X' hK => q' _ H' (X4.trans X') hK
    obtain ⟨kl', xs, e, h2, hxs⟩ := hks
    cases e
    have lxs : xs.length = n := by rw [Paired.length hxs, List.length_map, hlen]
    refine q_cut (M := fun σ' H' => ∃ (a : Addr) (b : Bool), σ' = [some (.ref p), some (.int (n : Int)), some (.ref lw), some (.ref a), none, none, none] ∧ SqB K H' b a xs ∧ Paired (fun x k => KAt K T.C_Field T.C_Kind k x H') xs (ws.map plainK) ∧ H' lw = some (.lst (ws.map V.str))) ?_ ?_
    · refine takeN (n := 2) rfl ev_c (P1.mono X2) (by omega) (by decide) (by decide) fun H3 d K3 P3 _ _ => ⟨rfl, _, rfl, ?_⟩
      have nkl : kl ≠ p := P1.ne hkl
      have h3 := K3 _ _ nkl h2
      obtain ⟨_, _, _, _, _, _, hpen, _⟩ := P1.mono X2
      have KI := KpI.kp (K := K) K3 (fun C dx fs q => by rw [hpen] at q; cases q) (fun xs q => by rw [hpen] at q; cases q) fun o u q => by rw [hpen] at q; cases q
      have hxs3 := Paired.mapP hxs fun _ _ z => KAt.keep KI z
      have hw3 := K3 _ _ nlw (X2 _ _ h1)
      refine ite_b (fun _ => ?_) fun _ => ⟨kl, true, rfl, h3, hxs3, hw3⟩
      exact ⟨_, rfl, kl, xs, rfl, .inl ⟨SqL.of h3, fun t ht => ⟨t, false, rfl, SqT.of upd_same, Paired.mapP hxs3 fun _ _ z => z.mono (Ex.new ht), (Ex.new ht) _ _ hw3⟩⟩⟩
    · rintro σ' H3 ⟨a, b, rfl, hs3, hx3, hw3⟩
      obtain ⟨x, hx⟩ : ∃ x, ws[n - 1]? = some x := ⟨_, List.getElem?_eq_getElem (by omega : n - 1 < ws.length)⟩
      have hxm := List.mem_of_getElem? hx
      have hgK : ∀ k ∈ ws.map plainK, KGood k := fun k hk => by
        obtain ⟨y, hy, rfl⟩ := List.mem_map.mp hk
        exact (plain_good (hkn y hy)).kg
      have lk : (ws.map plainK).length = n := by rw [List.length_map, hlen]
      refine s_mkAD (vs := [.str x, .ref a]) (ea_cons (ev_op (ev_var rfl) (ev_op (ev_var rfl) ev_c rv_I0) (rv_ixL (K := K) (sq_of hw3) (at_of (j := n - 1) (by omega) (by rw [List.getElem?_map, hx]; rfl)))) (ea_cons (ev_var rfl) ea_nil)) fun H4 X4 y dx hy hd hne => ?_
      have px : PV K H4 (.str x) (.str x) := .dp (.str _) (knS_pl (hkn x hxm))
      rcases hn with rfl | rfl
      · refine hs_core (b := b) hy hd hne px (hs3.mono X4) (Paired.mapP hx3 fun _ _ z => z.mono X4) hgK (by omega) (by omega) ?_
        rw [plain_res hnd hxm]
        intro H5 X5 hh hr'
        obtain ⟨dx5, fs5, hd5, _⟩ := hr'
        have lm : ((ws.map plainK).zip xs).length = 12 := by rw [List.length_zip, lk, lxs]; rfl
        refine s_ret (v := .bl true) (ev_is (ev_andV (ev_op (ev_var rfl) ev_c (rv_eq rfl)) fun _ => ev_op (ev_cb (z := .int 12) (ea_cons (ev_var rfl) ea_nil) fun H6 X6 Q' q' => ⟨y, dx5, fs5, rfl, X6 _ _ hd5, y, _, rfl, hh.mono X6, fun H7 X7 => ⟨_, rfl, by rw [lm]; decide, by rw [lm]; exact q' H7 X7⟩⟩) ev_c (rv_eq rfl)) rfl) fun H6 _ => kont H6
      · refine hs_many (b := b) hy hd hne px (hs3.mono X4) (Paired.mapP hx3 fun _ _ z => z.mono X4) hgK (by omega) (by omega) fun d H5 X5 hd5 => ⟨true, T.X_BadHouse.exmSelf, fun _ e he => ?_, fun z => nomatch z⟩
        exact s_ret (v := .bl true) (ev_is (ev_andV (ev_op (ev_var rfl) ev_c (rv_eq rfl)) fun _ => ev_op (ev_xf (ev_var rfl) hd5 rfl) ev_c rv_isN) rfl) fun H6 _ => kont H6
end
end K03

namespace K03
open PySem L2 Way Evl
/-! lists whose items hold P -/
def EvD (ta : TA) (σ : L2.St) (H : Hp) (P : V → Hp → Prop) (n : Nat) : Prop := EvXA ta σ H fun vs H' => (∀ v ∈ vs, P v H') ∧ vs.length = n
def LsD (P : V → Hp → Prop) (n : Nat) (v : V) (H : Hp) : Prop := ∃ p xs, v = .ref p ∧ H p = some (.lst xs) ∧ (∀ v ∈ xs, P v H) ∧ xs.length = n
section
variable {K : PySem.W.Frag} {σ : L2.St} {H : Hp} {te tb tm ta : TE} {tr : TA} {P : V → Hp → Prop} {n : Nat}
theorem evd_nil : EvD tNil σ H P 0 := exa_nil fun H1 => ⟨fun v hv => absurd hv List.not_mem_nil, rfl⟩
theorem evd_cons (mn : ∀ v H1 H2, Ex H1 H2 → P v H1 → P v H2) (h : EvX te σ H P) (r : EvD tr σ H P n) : EvD (tCons te tr) σ H P (n + 1) :=
  exa_cons h r mn fun v vs H1 h1 ⟨h2, h3⟩ => ⟨fun w hw => (List.mem_cons.mp hw).elim (fun e => by rw [e]; exact h1) (h2 w), by rw [List.length_cons, h3]⟩
theorem en_lstD (mn : ∀ v H1 H2, Ex H1 H2 → P v H1 → P v H2) (h : EvD tr σ H P n) (hn : n ≤ 1000) : EvN (tLst tr) σ H (LsD P n) := fun H1 e Q q =>
  h H1 e _ fun vs H2 e2 ⟨h2, h3⟩ => ⟨sz_of (by omega), fun p hp => q p _ (fresh_back e2 hp) (e2.trans (Ex.new hp)) ⟨p, vs, rfl, upd_same, fun v hv => mn v _ _ (Ex.new hp) (h2 v hv), h3⟩⟩
variable {α : Type} {R : α → V → Hp → Prop} {S S' : List α}
theorem en_drop {th : TE} {u : V} {k : Nat} (m : Mon R) (h : Ev te σ H u) (hk : Ev th σ H (.int (k : Int))) (hp : LAt R S u H) : EvN (tSl (rSlL K) te (tPart th) tNoPart) σ H (LAt R (S.drop k)) := fun H1 e Q q => by
  obtain ⟨l, xs, rfl, h1, hx⟩ := hp
  refine (el_sl (K := K) h (eo_some hk) eo_none (sq_of h1) : EvL _ _ H _) H1 e Q fun p H2 hn e2 h2 => ?_
  have ec : cutV xs (some (k : Int)) none = xs.drop k := by
    unfold cutV
    rw [show HT.sIx xs.length xs.length none = xs.length from rfl, HT.sIx_nat]
    rcases Nat.le_total k xs.length with h | h
    · rw [Nat.min_eq_left h, List.take_of_length_le (by rw [List.length_drop]; omega)]
    · rw [Nat.min_eq_right h, List.drop_length, List.drop_of_length_le h, List.take_nil]
  rw [ec] at h2
  have pd : ∀ {xs : List V} {S : List α} (k : Nat), Paired (fun x i => R i x H) xs S → Paired (fun x i => R i x H) (xs.drop k) (S.drop k) := fun {xs S} k h => by
    induction h generalizing k with
    | nil => simp only [List.drop_nil]; exact .nil
    | cons a r ih =>
      cases k with
      | zero => exact .cons a r
      | succ k => exact ih k
  exact q p H2 hn e2 ⟨p, _, rfl, h2, Paired.mapP (pd k hx) fun _ _ z => m _ _ _ _ (e.trans e2) z⟩
theorem en_catN (m : Mon R) (h : EvN ta σ H (LAt R S)) (h2 : EvN tb σ H (LAt R S')) (hz : S.length + S'.length ≤ 100000) : EvN (tOp rCat ta tb) σ H (LAt R (S ++ S')) := fun H1 e Q q =>
  h H1 e _ fun p H2 hp e2 h1 => h2 H2 (e.trans e2) _ fun p' H3 hp' e3 h3 => by
    obtain ⟨a, xs, ea, hx1, hx2⟩ := h1
    cases ea
    obtain ⟨b, ys, eb, hy1, hy2⟩ := h3
    cases eb
    refine ⟨p, p', xs, ys, rfl, rfl, e3 _ _ hx1, hy1, sz_of (by rw [Paired.length hx2, Paired.length hy2]; exact hz), fun t ht => ?_⟩
    have X4 := Ex.new (o := .lst (xs ++ ys)) ht
    exact q t _ (fresh_back (e2.trans e3) ht) ((e2.trans e3).trans X4) ⟨t, _, rfl, upd_same, pr_append (Paired.mapP hx2 fun _ _ z => m _ _ _ _ (e3.trans X4) z) (Paired.mapP hy2 fun _ _ z => m _ _ _ _ X4 z)⟩
theorem en_catVN {u : V} (m : Mon R) (h : Ev ta σ H u) (hu : LAt R S u H) (h2 : EvN tb σ H (LAt R S')) (hz : S.length + S'.length ≤ 100000) : EvN (tOp rCat ta tb) σ H (LAt R (S ++ S')) := fun H1 e Q q => by
  obtain ⟨p, xs, rfl, hx1, hx2⟩ := hu
  refine h H1 e _ fun H2 e2 => h2 H2 (e.trans e2) _ fun p' H3 hp' e3 h3 => ?_
  obtain ⟨b, ys, eb, hy1, hy2⟩ := h3
  cases eb
  refine ⟨p, p', xs, ys, rfl, rfl, ((e.trans e2).trans e3) _ _ hx1, hy1, sz_of (by rw [Paired.length hx2, Paired.length hy2]; exact hz), fun t ht => ?_⟩
  have X4 := Ex.new (o := .lst (xs ++ ys)) ht
  exact q t _ (fresh_back (e2.trans e3) ht) ((e2.trans e3).trans X4) ⟨t, _, rfl, upd_same, pr_append (Paired.mapP hx2 fun _ _ z => m _ _ _ _ (((e.trans e2).trans e3).trans X4) z) (Paired.mapP hy2 fun _ _ z => m _ _ _ _ X4 z)⟩
theorem en_lst1 {i : α} (m : Mon R) (h : EvX te σ H (R i)) : EvN (tLst (tCons te tNil)) σ H (LAt R [i]) := en_lstP m (evp_cons m h evp_nil) (by show 1 ≤ _; decide)
end
theorem pr_some' {K : PySem.W.Frag} {CF CK : Addr} {H : Hp} : ∀ {xs : List V} {ks : List Kd}, Paired (fun x k => KAt K CF CK k x H) xs ks → Paired (fun x e => Ke2 K CF CK e x H) xs (ks.map some)
  | [], [], .nil => .nil
  | _ :: _, _ :: _, .cons a r => .cons a (pr_some' r)
section
variable {K : PySem.W.Frag} {CF CK : Addr} {σ : L2.St} {H : Hp} {te tm : TE}
/-- a list with something in it that is no kind -/
theorem ox_seq {S : List (Option Kd)} (h : EvN te σ H (LAt (Ke2 K CF CK) S)) (g : ∀ kd, some kd ∈ S → KGood kd) (l : S.length ≤ 300) (w : S.length = 0 ∨ none ∈ S) : EvX te σ H (OddK K CF CK) := (h.to fun v H1 e hq => by
  obtain ⟨p, xs, rfl, h1, h2⟩ := hq
  exact OddK.seq p true xs S rfl h1 h2 g (by rw [Paired.length h2]; exact l) w).x
theorem ox_dat {v : V} {d : PyData} (h : Ev te σ H v) (p : ∀ H1, PV K H1 v d) (s : isSq d = false) : EvX te σ H (OddK K CF CK) := EvX.of h fun H1 _ => .dat d (p H1) s
/-- ks[:i] + [x] + ks[i:] -/
theorem ox_mid {j i n : Nat} {u : V} {rs : List Kd} (hj : σ[j]? = some (some u)) (hi : σ[i]? = some (some (.int (n : Int)))) (hk : LAt (KAt K CF CK) rs u H) (hg : ∀ k ∈ rs, KGood k) (l : rs.length ≤ 12) (hm : ∀ H1, Ex H H1 → EvX tm σ H1 (Ke2 K CF CK none)) :
    EvX (tOp rCat (tOp rCat (tSl (rSlL K) (tVar j) tNoPart (tPart (tVar i))) (tLst (tCons tm tNil))) (tSl (rSlL K) (tVar j) (tPart (tVar i)) tNoPart)) σ H (OddK K CF CK) := by
  have hk' : LAt (Ke2 K CF CK) (rs.map some) u H := let ⟨p, xs, e, h1, h2⟩ := hk; ⟨p, xs, e, h1, pr_some' h2⟩
  refine ox_seq (S := ((rs.map some).take n ++ [none]) ++ (rs.map some).drop n) (en_catN ke2_mono (en_catN ke2_mono (en_take (K := K) ke2_mono (ev_var hj) (ev_var hi) hk') (en_lst1 ke2_mono (hm H (Ex.refl H))) ?_) (en_drop (K := K) ke2_mono (ev_var hj) (ev_var hi) hk') ?_) (fun kd hkd => ?_) ?_ (.inr (by simp))
  · rw [List.length_take, List.length_map]; show _ + 1 ≤ _; omega
  · rw [List.length_append, List.length_take, List.length_drop, List.length_map]; show _ + 1 + _ ≤ _; omega
  · have : some kd ∈ rs.map some := by
      rcases List.mem_append.mp hkd with z | z
      · rcases List.mem_append.mp z with z | z
        · exact List.mem_of_mem_take z
        · cases List.mem_singleton.mp z
      · exact List.mem_of_mem_drop z
    obtain ⟨k, hk, e⟩ := List.mem_map.mp this
    exact Option.some.inj e ▸ hg k hk
  · rw [List.length_append, List.length_append, List.length_take, List.length_drop, List.length_map]; show _ + 1 + _ ≤ _; omega
end
def spNoK (K : PySem.W.Frag) : Sp := fun vs H Q _ => ∃ (p c l : Addr) (k : Nat) (rs : List Kd) (root : Str), vs = [.ref p, .ref l, .str root] ∧ Pen H p c k ∧ k ≤ 60000 ∧ RsAt K rs l H ∧ (∀ r ∈ rs, RGood r) ∧ 1 ≤ rs.length ∧ rs.length ≤ 12 ∧ plS root = true ∧ ∀ H', Kp p H H' → Pen H' p c (k + 3) → Q (.bl true) H'
def afD : Fd := ⟨"a", "mark", none, 0, []⟩
theorem af_good : FGood afD := by unfold FGood; decide +kernel
section
variable {P : Program} {w : World} {K : PySem.W.Frag} {mg : Str → Option Value} {base : Heap}
theorem ok_no_kinds (T : Txt P K mg) : FnOk P w K mg base CX0 10 T.f_no_kinds T.d_no_kinds P_no_kinds (spNoK K) := by
  have G_take := ok_take (P := P) (w := w) (base := base) T
  have G_made_kind := ok_made_kind (P := P) (w := w) (base := base) T
  have G_one_of := ok_one_of (P := P) (w := w) (base := base) T
  have G_House_init := ok_House_init (P := P) (w := w) (base := base) T
  have G_Field_init := ok_Field_init (P := P) (w := w) (base := base) T
  obtain ⟨dsF, bd_Field_init⟩ := bdF T
  refine T.F_no_kinds.ok sc_no_kinds (fun vs H Q E h => ?_) (fun cdv A outer s H vs Q E hr h => ?_)
  · obtain ⟨p, c, l, k, rs, root, rfl, _⟩ := h
    rfl
  · obtain ⟨p, c, l, k, rs, root, rfl, hP, hk, hl, hg, l1, l12, hroot, kont⟩ := h
    refine ⟨_, (pss_cons (ps_setLc (i := 3) (own := [("_law_row_here", 8)]) (g := gName 8) (by rfl) sc_no_kinds.nd rfl rfl (sw_true rfl rfl rfl (by decide +kernel)) (pi_list (pv 1)) (blkOk_by (own := [("_law_row_here", 8)]) (N := N_no_kinds) (sc := defScope s_no_kinds) (by decide +kernel)) (fun _ _ _ _ _ => (pg_name (i := 8) sc_no_kinds.nd rfl (Or.inl rfl))) (fun _ _ _ _ _ => pts_nil) (fun _ _ _ _ _ => (pe_call G_made_kind (hr.mono (by decide)) (by rfl) T.g_made_kind T.F_made_kind.kp T.B_made_kind .nil pass0 (pa_cons (pv 8) pa_nil))))
      (pss_cons (ps_set (i := 4) sc_no_kinds.nd rfl (Or.inl rfl) (pe_call G_take (hr.mono (by decide)) (by rfl) T.g_take T.F_take.kp T.B_take .nil pass0 (pa_cons (pv 0) (pa_cons (pe_op op_add (pe_callB call_len_seq (by rfl) T.b_len (by decide +kernel) (pa_cons (pv 3) pa_nil)) pe_int) pa_nil))))
      (pss_cons (ps_set (i := 5) sc_no_kinds.nd rfl (Or.inl rfl) (pe_lst (pa_cons pe_non (pa_cons pe_int (pa_cons pe_str (pa_cons (pe_tup pa_nil) (pa_cons (pe_lst pa_nil) (pa_cons pe_dnewK (pa_cons pe_bl (pa_cons (pe_ix ix_list (pv 3) pe_int (fun _ _ => rfl)) (pa_cons (pe_op op_cat (pe_op op_cat (pe_slice sl_list (pv 3) po_none (po_some (pv 4))) (pe_lst (pa_cons pe_non pa_nil))) (pe_slice sl_list (pv 3) (po_some (pv 4)) po_none)) (pa_cons (pe_op op_cat (pe_op op_cat (pe_slice sl_list (pv 3) po_none (po_some (pv 4))) (pe_lst (pa_cons (pe_tup (pa_cons pe_str (pa_cons (pe_lst pa_nil) pa_nil))) pa_nil))) (pe_slice sl_list (pv 3) (po_some (pv 4)) po_none)) (pa_cons (pe_op op_cat (pv 3) (pe_lst (pa_cons (pe_make T.M_Field G_Field_init (hr.mono (by decide)) (by rfl) T.g_Field bd_Field_init.2 bd_Field_init.1 L2.passL (pa_cons pe_str (pa_cons pe_str pa_nil))) pa_nil))) (pa_cons (pe_disp (pps_cons pe_str (pe_ix ix_list (pv 3) pe_int (fun _ _ => rfl)) pps_nil) (by rfl) (by rfl) (fun z => by cases z) (by decide)) (pa_cons pe_str (pa_cons (pe_op op_cat (pe_op op_cat (pe_slice sl_list (pv 3) po_none (po_some (pv 4))) (pe_lst (pa_cons (pv 3) pa_nil))) (pe_slice sl_list (pv 3) (po_some (pv 4)) po_none)) pa_nil))))))))))))))))
      (pss_cons (ps_set (i := 6) sc_no_kinds.nd rfl (Or.inl rfl) (pe_lst pa_nil))
      (pss_cons (ps_try_as (i := 7) rfl rfl sc_no_kinds.nd rfl rfl ⟨by rfl, by decide, .inl T.g_BadHouse⟩ Way.takes0 (fun W pn xe tk po => (pss_one (ps_expr (Way.pe_makeSD T.M_House G_House_init (hr.mono (by decide)) (by rfl) T.g_House T.B_House_init .nil (fun σ => passAt tk σ) (pa_cons (pe_call G_one_of (hr.mono (by decide)) (by rfl) T.g_one_of T.F_one_of.kp T.B_one_of .nil pass0 (pa_cons (pv 0) (pa_cons (pe_lst (pa_cons (pv 2) (pa_cons pe_non pa_nil))) pa_nil))) (pa_cons (pe_call G_one_of (hr.mono (by decide)) (by rfl) T.g_one_of T.F_one_of.kp T.B_one_of .nil pass0 (pa_cons (pv 0) (pa_cons (pv 5) pa_nil))) pa_nil)))))) (fun a oe cls d pn hz hf => (pss_one (ps_set (i := 6) sc_no_kinds.nd rfl (Or.inl rfl) (pe_lst (pa_cons pe_str (pa_cons (pe_xf T.X_BadHouse.xf T.na_BadHouse_name hz hf (pv 7)) pa_nil)))))))
      (pss_one (ps_ret (pe_cmpR (op_eqD hr.units) (pv 6) (pe_lst (pa_cons pe_str (pa_cons pe_non pa_nil))) (nomark _))))))))), ?_⟩
    refine n_asg (P := LAt (KAt K T.C_Field T.C_Kind) (rs.map id)) (en_mapL (K := K) (α := Kd) (β := Kd) (P := RowAt K) (R := KAt K T.C_Field T.C_Kind) (c := id) rowAt_mono kat_stay (ev_var rfl) hl (by omega) (fun _ => rfl) fun x r H1 X1 hr' hx => ?_) fun kl H1 hkl X1 hks => ?_
    · exact fun H2 X2 Q' q' => ⟨x, rfl, x, r, rfl, rowAt_mono _ _ _ _ X2 hx, hg r hr', fun u H3 X3 hF => q' u H3 X3 hF⟩
    rw [List.map_id] at hks
    have hgK : ∀ k ∈ rs, KGood k := fun k hk => (hg k hk).kg
    refine q_any (takeN (n := (rs.length : Int) + 1) rfl (ev_op (ev_lenLA (K := K) (ev_var rfl) hks) ev_c rv_I0) (hP.mono X1) (by omega) (by omega) (by omega) fun H2 d K2 P2 d0 d1 => ?_)
    obtain ⟨n, rfl⟩ : ∃ n : Nat, d = (n : Int) := ⟨d.toNat, by omega⟩
    have nkl : kl ≠ p := hP.ne hkl
    have hks2 : LAt (KAt K T.C_Field T.C_Kind) rs (.ref kl) H2 := lat_pen (hP.mono X1) K2 (fun _ _ z => KAt.keep (kpI_pen (hP.mono X1) K2) z) hks
    obtain ⟨kl', xs, e, h2, hxs⟩ := id hks2
    cases e
    have lxs : xs.length = rs.length := Paired.length hxs
    obtain ⟨v0, hv0⟩ : ∃ v0, xs[0]? = some v0 := ⟨_, List.getElem?_eq_getElem (by omega : 0 < xs.length)⟩
    obtain ⟨r0, hr0, hv0r⟩ := pr_at hxs hv0
    have ev0 : ∀ Hx, Ex H2 Hx → Ev (tOp (rIxL K) (tVar 3) (tC (.int 0))) [some (.ref p), some (.ref l), some (.str root), some (.ref kl), some (.int (n : Int)), none, none, none, none] Hx v0 := fun Hx X => ev_op (ev_var rfl) ev_c (rv_ixL (K := K) (sq_of (X _ _ h2)) (at_of (j := 0) rfl hv0))
    refine n_asg (en_lstD (P := OddK K T.C_Field T.C_Kind) (fun v H1 H2 e h => h.mono e)
      (evd_cons (fun v H1 H2 e h => h.mono e) (ox_dat (d := .none) ev_c (fun H1 => .dp .non rfl) rfl)
      (evd_cons (fun v H1 H2 e h => h.mono e) (ox_dat (d := .int 0) ev_c (fun H1 => .dp (.int 0) (by decide +kernel)) rfl)
      (evd_cons (fun v H1 H2 e h => h.mono e) (ox_dat (d := .str "") ev_c (fun H1 => .dp (.str "") (by decide +kernel)) rfl)
      (evd_cons (fun v H1 H2 e h => h.mono e) ?tup
      (evd_cons (fun v H1 H2 e h => h.mono e) (ox_seq (S := []) (en_lstP ke2_mono evp_nil (Nat.zero_le _)) (fun kd z => (by cases z)) (by decide) (.inl rfl))
      (evd_cons (fun v H1 H2 e h => h.mono e) ?emp
      (evd_cons (fun v H1 H2 e h => h.mono e) (ox_dat (d := .bool true) ev_c (fun H1 => .dp (.bl true) rfl) rfl)
      (evd_cons (fun v H1 H2 e h => h.mono e) (EvX.of (ev0 H2 (Ex.refl H2)) fun H3 X3 => .knd r0 (hv0r.mono X3))
      (evd_cons (fun v H1 H2 e h => h.mono e) (ox_mid rfl rfl hks2 hgK l12 fun H3 X3 => EvX.of ev_c fun H4 X4 => OddE.dat .none (.dp .non rfl))
      (evd_cons (fun v H1 H2 e h => h.mono e) (ox_mid rfl rfl hks2 hgK l12 ?pair)
      (evd_cons (fun v H1 H2 e h => h.mono e) ?fld
      (evd_cons (fun v H1 H2 e h => h.mono e) ?dct
      (evd_cons (fun v H1 H2 e h => h.mono e) (ox_dat (d := .str "AB") ev_c (fun H1 => .dp (.str "AB") (by decide +kernel)) rfl)
      (evd_cons (fun v H1 H2 e h => h.mono e) (ox_mid rfl rfl hks2 hgK l12 fun H3 X3 => EvX.of (ev_var rfl) fun H4 X4 => OddE.lst kl xs rfl ((X3.trans X4) _ _ h2)) evd_nil)))))))))))))) (by decide)) fun ml H3 hml X3 hm => ?_
    case tup => exact fun H3 X3 Q' q' => ⟨by decide, fun t ht => q' _ _ (Ex.new ht) (.seq t false [] [] rfl (SqT.of upd_same) .nil (fun kd z => (by cases z)) (by decide) (.inl rfl))⟩
    case emp => exact fun H3 X3 Q' q' t ht => q' _ _ (Ex.new ht) (.dat (.dict []) (.emp upd_same) rfl)
    case pair =>
      intro H3 X3 H4 X4 Q' q'
      refine ⟨Nat.zero_le _, fun b hb => ⟨by show 2 ≤ sizeLine; decide, fun t ht => ?_⟩⟩
      have X5 : Ex H4 (upd H4 b (.lst [])) := Ex.new hb
      have X6 : Ex (upd H4 b (.lst [])) (upd (upd H4 b (.lst [])) t (.tup [.str "A", .ref b])) := Ex.new ht
      exact q' _ _ (X5.trans X6) (OddE.dat (.tuple [.str "A", .list []]) (.dp (.tup (SqT.of upd_same) (.cons (.str "A") (.cons (.lst (SqL.of (X6 _ _ upd_same)) .nil) .nil))) (by decide +kernel)))
    case fld =>
      have hk' : LAt (Ke2 K T.C_Field T.C_Kind) (rs.map some) (.ref kl) H2 := ⟨kl, xs, rfl, h2, pr_some' hxs⟩
      refine ox_seq (S := rs.map some ++ [none]) (en_catVN ke2_mono (ev_var rfl) hk' (en_lst1 ke2_mono fun H3 X3 Q' q' x dx hx hd hne => ?_) ?_) (fun kd hkd => ?_) ?_ (.inr (by simp))
      · exact fld_core (K := K) (CB := T.C_BadField) (f := afD) (t := T.e0_Field_init) hx hd hne af_good (T.et_Field_init _) fun H' X' hF => q' _ H' X' (OddE.fld afD hF)
      · rw [List.length_map]; show _ + 1 ≤ _; omega
      · have : some kd ∈ rs.map some := (List.mem_append.mp hkd).elim id fun z => by cases List.mem_singleton.mp z
        obtain ⟨k, hk, e⟩ := List.mem_map.mp this
        exact Option.some.inj e ▸ hgK k hk
      · rw [List.length_append, List.length_map]; show _ + 1 ≤ _; omega
    case dct =>
      intro H3 X3 Q' q' a ha
      refine ev0 _ (X3.trans (Ex.new ha)) _ (Ex.refl _) _ fun H4 X4 => ⟨X4 _ _ upd_same, [(.inr "A", v0)], rfl, by show 1 ≤ 15; decide, ?_⟩
      exact q' _ _ (Ex.mut ((Ex.new ha).trans X4) ha) (.dct a _ rfl upd_same (by show (mergeK [] [((.inr "A" : Key), v0)]).length ≤ 1; exact Nat.le_refl 1))
    obtain ⟨ml', ms, e, h3, hms, lms⟩ := hm
    cases e
    refine q_asgL (el_lst ea_nil (Nat.zero_le _)) fun tl H4 htl X4 h4 => ?_
    have P4 := P2.mono (X3.trans X4)
    refine oneL (K := K) (xs := [.str root, .non]) rfl (el_lst (ea_cons (ev_var rfl) (ea_cons ev_c ea_nil)) (Nat.le_of_ble_eq_true rfl)) P4 (by omega) (by show 0 < 2; decide) (by show 2 ≤ 100; decide) fun H5 v hv K5 P5 => ?_
    have h5 := lst_pen P4 K5 (X4 _ _ h3)
    refine oneV (K := K) (xs := ms) rfl (ev_var rfl) h5 P5 (by omega) (by omega) (by omega) fun H6 w hw K6 P6 x dx hx hd hne => ?_
    obtain ⟨dr, pr⟩ : ∃ dr, PV K H6 v dr := by
      simp only [List.mem_cons, List.not_mem_nil, or_false] at hv
      rcases hv with rfl | rfl
      · exact ⟨.str root, .dp (.str _) hroot⟩
      · exact ⟨.none, .dp .non rfl⟩
    refine hs_odd T hx hd hne pr ((((hms w hw).mono X4).pen P4 K5).pen P5 K6) fun d H7 X7 hd7 => ⟨true, T.X_BadHouse.exmSelf, fun _ e he => ?_, fun z => nomatch z⟩
    refine s_asgL (el_lst (vs := [.str "bad", .non]) (ea_cons ev_c (ea_cons (ev_xf (ev_var rfl) hd7 rfl) ea_nil)) (Nat.le_of_ble_eq_true rfl)) fun tl2 H8 htl2 X8 h8 => ?_
    have K8 : Kp p H H8 := Kp.trans (Kp.of X1) (Kp.trans K2 (Kp.trans (Kp.of (X3.trans X4)) (Kp.trans K5 (Kp.trans K6 (Kp.of (X7.trans X8))))))
    refine s_ret (v := .bl true) (ev_is (ev_opL (xs := [.str "bad", .non]) (ev_var rfl) (el_lst (ea_cons ev_c (ea_cons ev_c ea_nil)) (Nat.le_of_ble_eq_true rfl)) fun q H9 h9 X9 => rv_eqD (K := K) (d := .list [.str "bad", .none]) (e := .list [.str "bad", .none]) (fun H10 X10 => .lst (SqL.of ((X9.trans X10) _ _ h8)) (.cons (.str "bad") (.cons .non .nil))) (fun H10 X10 => .lst (SqL.of (X10 _ _ h9)) (.cons (.str "bad") (.cons .non .nil))) (by decide +kernel) (by decide +kernel)) (congrArg V.bl (by decide +kernel))) fun H9 X9 => kont H9 (Kp.trans K8 (Kp.of X9)) (P6.mono ((X7.trans X8).trans X9))
end
end K03

namespace K03
open PySem L2 Way Evl
/-! what is told and what is due, as data -/
theorem sw_bl {b : Bool} {m : Nat} : Shw 0 m (.bool b) := ⟨by simp [PyData.showable], by cases b <;> decide +kernel, by simp [PyData.weight], by simp [PyData.depth], by simp [PyData.hasDict]⟩
theorem sw_atom {d : PyData} {m : Nat} (h : plA d = true) : Shw 200 m d := by
  cases d with
  | none => exact sw_non.le (by decide) (Nat.le_refl _)
  | bool b => exact sw_bl.le (by decide) (Nat.le_refl _)
  | int i => exact sw_int (by simpa [plA] using h)
  | str x =>
    have h' : plS x = true := h
    simp only [plS, Bool.and_eq_true, decide_eq_true_eq] at h'
    refine (sw_str (List.all_eq_true.mpr fun c hc => ?_)).le (by omega) (Nat.le_refl _)
    have := (plC_bnd (List.all_eq_true.mp h'.1 c hc)).1
    exact decide_eq_true (by omega)
  | list _ => simp [plA] at h
  | tuple _ => simp [plA] at h
  | dict _ => simp [plA] at h
theorem shp_atom {d : PyData} {n : Nat} (h : plA d = true) : Shp n d := by
  cases d with
  | none => exact shp_non
  | bool b => exact shp_bl
  | int i => exact shp_int
  | str x => exact ⟨by simp only [PyData.canLay0]; exact plS_ok h, by simp only [PyData.depth]; omega⟩
  | list _ => simp [plA] at h
  | tuple _ => simp [plA] at h
  | dict _ => simp [plA] at h
def resD (dr : PyData) : HR → PyData
  | .kind n => .list [.str "bad", .str n]
  | .root => .list [.str "bad", dr]
  | .fine => .list []
structure AtV (K : PySem.W.Frag) (rv : V) (dr : PyData) : Prop where
  a : plA dr = true
  d : ∀ H, Dp K H rv dr
theorem AtV.pv {K : PySem.W.Frag} {rv : V} {dr : PyData} {H : Hp} (h : AtV K rv dr) : PV K H rv dr := .dp (h.d H) (by
  have := h.a
  cases dr <;> first | exact this | simp [plA] at this)
theorem dp_res {K : PySem.W.Frag} {rs : List Kd} {rv : V} {dr : PyData} {H : Hp} {p : Addr} {r : HR} (hd : ∀ H, Dp K H rv dr) (h : H p = some (.lst (resL rs rv dr r))) : Dp K H (.ref p) (resD dr r) := by
  cases r with
  | kind n => exact .lst (SqL.of h) (.cons (.str "bad") (.cons (.str n) .nil))
  | root => exact .lst (SqL.of h) (.cons (.str "bad") (.cons (hd H) .nil))
  | fine => exact .lst (SqL.of h) .nil
theorem bad_pl : plA (.str "bad") = true := by decide +kernel
theorem shp_res {dr : PyData} {r : HR} (hd : plA dr = true) (hn : ∀ n, r = .kind n → plS n = true) : Shp 2 (resD dr r) := by
  cases r with
  | kind n =>
    refine shp_lst fun d hd' => ?_
    rcases List.mem_cons.mp hd' with rfl | hd'
    · exact shp_atom bad_pl
    · rw [List.mem_singleton.mp hd']
      exact shp_atom (hn n rfl)
  | root =>
    refine shp_lst fun d hd' => ?_
    rcases List.mem_cons.mp hd' with rfl | hd'
    · exact shp_atom bad_pl
    · rw [List.mem_singleton.mp hd']
      exact shp_atom hd
  | fine => exact shp_lst fun d hd' => by cases hd'
theorem sw_res {dr : PyData} {r : HR} (hd : plA dr = true) (hn : ∀ n, r = .kind n → plS n = true) : Shw 402 4 (resD dr r) := by
  cases r with
  | kind n => exact sw_lst (sw_cons (sw_atom (m := 3) bad_pl) (sw_cons (sw_atom (m := 3) (d := .str n) (hn n rfl)) sw_nil))
  | root => exact sw_lst (sw_cons (sw_atom (m := 3) bad_pl) (sw_cons (sw_atom (m := 3) hd) sw_nil))
  | fine => exact (sw_lst (m := 3) sw_nil).le (by decide) (Nat.le_refl _)
theorem fb_mem {names : List Str} {n : Str} : ∀ {l e : List Kd}, fb names e l = some n → ∃ k ∈ l, k.name = n
  | [], e, h => by cases h
  | a :: r, e, h => by
    unfold fb at h
    split at h
    · obtain ⟨k, h1, h2⟩ := fb_mem h
      exact ⟨k, List.mem_cons_of_mem _ h1, h2⟩
    · exact ⟨a, List.mem_cons_self .., Option.some.inj h⟩
theorem hres_kind {rs : List Kd} {dr : PyData} {n : Str} (h : hres rs dr = .kind n) : n ∈ nms rs := by
  unfold hres at h
  split at h
  · rename_i m hm
    cases h
    obtain ⟨k, h1, rfl⟩ := fb_mem hm
    exact List.mem_map_of_mem h1
  · split at h
    · rename_i m hm
      cases h
      unfold firstWrong at hm
      rw [Option.map_eq_some_iff] at hm
      obtain ⟨k, h1, rfl⟩ := hm
      exact List.mem_map_of_mem (List.mem_of_find?_eq_some h1)
    · split at h <;> cases h
theorem hres_pl {rs : List Kd} {dr : PyData} (hg : ∀ r ∈ rs, RGood r) : ∀ n, hres rs dr = .kind n → plS n = true := fun n h => by
  obtain ⟨k, h1, rfl⟩ := List.mem_map.mp (hres_kind h)
  exact knS_pl (hg k h1).n
theorem house_fine {names : List Str} {rs : List Kd} (h : DHouse names rs) {r : Kd} (hr : r ∈ rs) (hk : r.key = none) : hres rs (.str r.name) = .fine := by
  have efb : fb (nms rs) [] rs = none := fb_none fun j k' hk' => by
    rw [List.nil_append]
    exact h.a.fits hk'
  have efw : firstWrong rs rs = none := wrong_none fun j k' hk' => by
    cases e : k'.frozen with
    | false => rfl
    | true => rw [h.w k' (List.mem_of_getElem? hk') e]; rfl
  have er : rootOk rs (.str r.name) = true := by
    have := kfind_self h.a.ok.ok.nd hr
    unfold rootOk
    simp only [this, hk]
    rfl
  unfold hres
  rw [efb]
  simp only [efw, er, if_true]
section
variable {K : PySem.W.Frag} {H : Hp} {σ : L2.St} {tl tr te tf : TE} {l : Addr} {rs : List Kd} {rv : V} {dr : PyData} {E : XK} {xs ys : List V} {d : PyData}
theorem el_told (h1 : Ev tl σ H (.ref l)) (h2 : Ev tr σ H rv) (hl : RsAt K rs l H) (hg : ∀ r ∈ rs, RGood r) (l1 : 1 ≤ rs.length) (l12 : rs.length ≤ 12) (pr : AtV K rv dr) : EvL (tCall (spTold K) [] E (tCons tl (tCons tr tNil))) σ H (resL rs rv dr (hres rs dr)) := fun H1 e Q q =>
  h1 H1 e _ fun H2 e2 => h2 H2 (e.trans e2) _ fun H3 e3 => ⟨l, rv, dr, rs, rfl, hl.mono rowAt_mono ((e.trans e2).trans e3), hg, l1, l12, pr.pv, fun p H4 hp e4 h4 => q p H4 (fresh_back (e2.trans e3) hp) ((e2.trans e3).trans e4) h4⟩
theorem el_due (h1 : Ev tl σ H (.ref l)) (h2 : Ev tr σ H rv) (hl : RsAt K rs l H) (hg : ∀ r ∈ rs, RGood r) (l1 : 1 ≤ rs.length) (l12 : rs.length ≤ 12) (pr : AtV K rv dr) : EvL (tCall (spDue K) [] E (tCons tl (tCons tr tNil))) σ H (resL rs rv dr (hres rs dr)) := fun H1 e Q q =>
  h1 H1 e _ fun H2 e2 => h2 H2 (e.trans e2) _ fun H3 e3 => ⟨l, rv, dr, rs, rfl, hl.mono rowAt_mono ((e.trans e2).trans e3), hg, l1, l12, pr.pv, fun p H4 hp e4 h4 => q p H4 (fresh_back (e2.trans e3) hp) ((e2.trans e3).trans e4) h4⟩
theorem ev_neSame (h1 : EvL te σ H xs) (h2 : EvL tf σ H ys) (d1 : ∀ H1 p, H1 p = some (.lst xs) → Dp K H1 (.ref p) d) (d2 : ∀ H1 p, H1 p = some (.lst ys) → Dp K H1 (.ref p) d) (s : Shp 2 d) : Ev (tOp (rNeD K) te tf) σ H (.bl false) :=
  ev_is (ev_opLL h1 h2 fun p q H1 hp hq X1 => rv_neD (fun H2 X2 => d1 H2 p (X2 _ _ hp)) (fun H2 X2 => d2 H2 q (X2 _ _ hq)) s.ok s.ok) (by rw [s.same]; rfl)
theorem ev_repr (h1 : EvL te σ H xs) (d1 : ∀ H1 p, H1 p = some (.lst xs) → Dp K H1 (.ref p) d) (s : Shw 402 4 d) : Ev (tCB (Way.rReprO K) (tCons te tNil)) σ H (.str d.shown) := fun H1 e Q q =>
  h1 H1 e _ fun p H2 hn e2 h2 => ⟨.ref p, d, 402, 4, rfl, .inr ⟨p, rfl⟩, d1 H2 p h2, s, by decide, by decide, q H2 e2⟩
theorem q_orX {t u : TT} {tu tz : TS} {D : Ends} (h : EvT t σ H false) (k : ∀ H1, Ex H H1 → u σ H1 fun b H2 => if b = true then tu { D with nx := tz D } σ H2 else tz D σ H2) : tSeq (tIfS (tOr t u) tu tNext) tz D σ H :=
  h H (Ex.refl H) _ fun H1 X1 => iteF (k H1 X1)
end
def spLaw (K : PySem.W.Frag) : Sp := fun vs H Q _ => ∃ (a : Addr) (ns : List Int), vs = [.ref a] ∧ SqL K H a (ns.map V.int) ∧ ns.length ≤ 63 ∧ ∀ H', Q (.bl true) H'
section
variable {P : Program} {w : World} {K : PySem.W.Frag} {mg : Str → Option Value} {base : Heap}
theorem ok_law (T : Txt P K mg) : FnG P w K mg base CX0 11 T.f_law T.d_law P_law (spLaw K) := by
  have G_pen := ok_pen (P := P) (w := w) (base := base) T
  have G_house_rows := ok_house_rows (P := P) (w := w) (base := base) T
  have G_root := ok_root (P := P) (w := w) (base := base) T
  have G_words := ok_words (P := P) (w := w) (base := base) T
  have G_counted := ok_counted (P := P) (w := w) (base := base) T
  have G_kind_names := ok_kind_names (P := P) (w := w) (base := base) T
  have G_bent := ok_bent (P := P) (w := w) (base := base) T
  have G_mended := ok_mended (P := P) (w := w) (base := base) T
  have G_one_of := ok_one_of (P := P) (w := w) (base := base) T
  have G_told := ok_told (P := P) (w := w) (base := base) T
  have G_no_kinds := ok_no_kinds (P := P) (w := w) (base := base) T
  have G_take := ok_take (P := P) (w := w) (base := base) T
  have G_due := ok_due (P := P) (w := w) (base := base) T
  refine okG T.F_law sc_law (fun vs H Q E h => ?_) (fun cdv A outer s H vs Q E hgd hr h => ?_)
  · obtain ⟨a, ns, rfl, _⟩ := h
    rfl
  · obtain ⟨a, ns, rfl, hS, hlen, kont⟩ := h
    refine ⟨_, (pss_cons (ps_set (i := 1) sc_law.nd rfl (Or.inl rfl) (pe_call G_pen (hr.mono (by decide)) (by rfl) T.g_pen T.F_pen.kp T.B_pen .nil pass0 (pa_cons (pv 0) pa_nil)))
      (pss_cons (ps_set (i := 2) sc_law.nd rfl (Or.inl rfl) (pe_call G_house_rows (hr.mono (by decide)) (by rfl) T.g_house_rows T.F_house_rows.kp T.B_house_rows .nil pass0 (pa_cons (pv 1) (pa_cons pe_int pa_nil))))
      (pss_cons (ps_set (i := 3) sc_law.nd rfl (Or.inl rfl) (pe_call G_root (hr.mono (by decide)) (by rfl) T.g_root T.F_root.kp T.B_root .nil pass0 (pa_cons (pv 1) (pa_cons (pv 2) pa_nil))))
      (pss_cons (ps_if (PW.pt (pw_or (pt_cmpR (op_neD hr.units) (pe_call G_told hr (by rfl) T.g_told T.F_told.kp T.B_told .nil pass0 (pa_cons (pv 2) (pa_cons (pv 3) pa_nil))) (pe_lst pa_nil) (nomark _)) (pw_or1 (pt_not (pt_val (pe_call G_no_kinds hr (by rfl) T.g_no_kinds T.F_no_kinds.kp T.B_no_kinds .nil pass0 (pa_cons (pv 1) (pa_cons (pv 2) (pa_cons (pv 3) pa_nil))))))))) (pss_one (ps_ret pe_bl)) pss_nil)
      (pss_cons (ps_set (i := 4) sc_law.nd rfl (Or.inl rfl) (pe_op op_cat (pe_lc (own := [("_law_row_here", 8)]) (g := gName 8) (by rfl) sc_law.nd (pi_list (pv 2)) (blkOk_by (own := [("_law_row_here", 8)]) (N := N_law) (sc := defScope s_law) (by decide +kernel)) (fun _ _ _ _ _ => (pg_name (i := 8) sc_law.nd rfl (Or.inl rfl))) (fun _ _ _ _ _ => pts_nil) (fun _ _ _ _ _ => (pe_dget (hu_of hr) (pv 8) pe_str (fun _ _ => rfl)))) (pe_call G_kind_names (hr.mono (by decide)) (by rfl) T.g_kind_names T.F_kind_names.kp T.B_kind_names .nil pass0 (pa_cons (pv 1) (pa_cons pe_int pa_nil)))))
      (pss_cons (ps_set (i := 5) sc_law.nd rfl (Or.inl rfl) (pe_call G_words (hr.mono (by decide)) (by rfl) T.g_words T.F_words.kp T.B_words .nil pass0 (pa_cons (pv 1) (pa_cons pe_int (pa_cons pe_int pa_nil)))))
      (pss_cons (ps_for PassesOwn.never rfl (pi_range1 (by rfl) T.b_range (pa_cons (pe_op op_add pe_int (pe_call G_take (hr.mono (by decide)) (by rfl) T.g_take T.F_take.kp T.B_take .nil pass0 (pa_cons (pv 1) (pa_cons pe_int pa_nil)))) pa_nil)) (pg_name (i := 6) sc_law.nd rfl (Or.inl rfl)) (pss_cons (ps_expr (pe_call G_bent (hr.mono (by decide)) (by rfl) T.g_bent T.F_bent.kp T.B_bent .nil pass0 (pa_cons (pv 1) (pa_cons (pv 2) (pa_cons (pv 4) (pa_cons (pv 5) pa_nil))))))
      (pss_cons (ps_expr (pe_call G_mended (hr.mono (by decide)) (by rfl) T.g_mended T.F_mended.kp T.B_mended .nil pass0 (pa_cons (pv 2) pa_nil)))
      (pss_cons (ps_set (i := 7) sc_law.nd rfl (Or.inl rfl) (pe_call G_one_of (hr.mono (by decide)) (by rfl) T.g_one_of T.F_one_of.kp T.B_one_of .nil pass0 (pa_cons (pv 1) (pa_cons (pe_op op_cat (pe_lst (pa_cons (pv 3) (pa_cons (pv 3) (pa_cons pe_non (pa_cons pe_int (pa_cons pe_str (pa_cons pe_str pa_nil))))))) (pv 4)) pa_nil))))
      (pss_one (ps_if (PW.pt (pw_or (pt_cmpR (op_neD hr.units) (pe_call G_told hr (by rfl) T.g_told T.F_told.kp T.B_told .nil pass0 (pa_cons (pv 2) (pa_cons (pv 3) pa_nil))) (pe_call G_due (hr.mono (by decide)) (by rfl) T.g_due T.F_due.kp T.B_due .nil pass0 (pa_cons (pv 2) (pa_cons (pv 3) pa_nil))) (nomark _)) (pw_or1 (pt_cmpR op_ne (pe_callB (Way.call_reprO hgd hr) (by rfl) T.b_repr (by decide +kernel) (pa_cons (pe_call G_told hr (by rfl) T.g_told T.F_told.kp T.B_told .nil pass0 (pa_cons (pv 2) (pa_cons (pv 7) pa_nil))) pa_nil)) (pe_callB (Way.call_reprO hgd hr) (by rfl) T.b_repr (by decide +kernel) (pa_cons (pe_call G_due (hr.mono (by decide)) (by rfl) T.g_due T.F_due.kp T.B_due .nil pass0 (pa_cons (pv 2) (pa_cons (pv 7) pa_nil))) pa_nil)) (nomark _))))) (pss_one (ps_ret pe_bl)) pss_nil))))))
      (pss_one (ps_ret (pe_call G_counted hr (by rfl) T.g_counted T.F_counted.kp T.B_counted .nil pass0 (pa_cons (pv 1) (pa_cons (pe_call G_one_of (hr.mono (by decide)) (by rfl) T.g_one_of T.F_one_of.kp T.B_one_of .nil pass0 (pa_cons (pv 1) (pa_cons (pe_lst (pa_cons pe_int (pa_cons pe_int pa_nil))) pa_nil))) pa_nil)))))))))))), ?_⟩
    refine q_any ⟨_, rfl, a, ns, rfl, hS, hlen, fun H1 p c X1 hp0 hc0 P1 => ?_⟩
    refine q_any ⟨_, rfl, p, c, 0, 6, rfl, P1, by decide, by decide, by decide, fun H2 l as rs names hl0 hf0 K2 P2 hR hD hn6 => ?_⟩
    have hA := hD.a
    have n1 : 1 ≤ rs.length := by rw [hA.l]; exact hA.n1.1
    have hgood := hA.good
    have hroot : ∃ r ∈ rs, r.key = none := by
      obtain ⟨r, hr0⟩ : ∃ r, rs[0]? = some r := ⟨_, List.getElem?_eq_getElem (by omega : 0 < rs.length)⟩
      exact ⟨r, List.mem_of_getElem? hr0, (hA.i 0 r hr0).z rfl⟩
    refine q_any ⟨_, rfl, _, rfl, p, c, l, _, rs, rfl, P2, by decide, hR.rs, by omega, hroot, fun H3 r hr' hkey K3 P3 => ?_⟩
    have hR3 := hR.pen P2 K3
    have kr : knS r.name = true := (hgood r hr').n
    have pr : AtV K (.str r.name) (.str r.name) := ⟨knS_pl kr, fun H => .str _⟩
    refine q_orX ?_ fun H4 X4 => ?_
    · have e1 := house_fine hD hr' hkey
      refine et_test (ev_neSame (K := K) (d := .list []) (el_told (ev_var rfl) (ev_var rfl) hR3.rs hgood n1 (by omega) pr) (el_lst ea_nil (Nat.zero_le _)) (fun H4 q h4 => ?_) (fun H4 q h4 => .lst (SqL.of h4) .nil) (shp_lst fun d hd => by cases hd))
      rw [e1] at h4
      exact .lst (SqL.of h4) .nil
    refine ⟨_, rfl, _, rfl, _, rfl, p, c, l, _, rs, r.name, rfl, P3.mono X4, by decide, (hR3.mono X4).rs, hgood, n1, by omega, knS_pl kr, fun H5 K5 P5 => ⟨true, rfl, ?_⟩⟩
    refine ite_b (fun z => nomatch z) fun _ => ?_
    have hR5 := (hR3.mono X4).pen (P3.mono X4) K5
    have emn : (rs.map fun r : Kd => V.str r.name) = (nms rs).map V.str := by unfold nms; rw [List.map_map]; rfl
    refine q_any ?_
    refine (el_mapL (K := K) (α := Kd) (P := RowAt K) (S := rs) (w := fun r : Kd => V.str r.name) rowAt_mono (ev_var rfl) hR5.rs (by omega) (fun _ => rfl) fun x r' H6 X6 hr' hx => ev_name (ev_var rfl) hx : EvL _ _ H5 _) H5 (Ex.refl H5) _ fun q6 H6 hq6 X6 h6 => ?_
    rw [emn] at h6
    have P6 := P5.mono X6
    refine ⟨_, rfl, p, c, _, 2, rfl, P6, by decide, by decide, fun l7 H7 ws hl7 K7 P7 h7 hlen7 hkn7 hnd7 => ?_⟩
    have nq6 : q6 ≠ p := P5.ne hq6
    have lnm : (nms rs).length = rs.length := by unfold nms; rw [List.length_map]
    refine ⟨q6, l7, _, _, rfl, rfl, K7 _ _ nq6 h6, h7, sz_of (by rw [List.length_map, List.length_map]; omega), fun ln hln => ?_⟩
    have X8 : Ex H7 (upd H7 ln (.lst ((nms rs).map V.str ++ ws.map V.str))) := Ex.new hln
    have h8 : (upd H7 ln (.lst ((nms rs).map V.str ++ ws.map V.str))) ln = some (.lst ((nms rs ++ ws).map V.str)) := by rw [upd_same, List.map_append]
    have nln : ln ≠ p := P7.ne hln
    have P8 := P7.mono X8
    have hR8 := (((hR5.mono X6).pen P6 K7).mono X8)
    revert h8 P8 hR8
    generalize upd H7 ln (.lst ((nms rs).map V.str ++ ws.map V.str)) = H8
    intro h8 P8 hR8
    refine q_any ⟨_, rfl, p, c, _, 14, rfl, P8, by decide, by decide, fun lp H9 pool hlp K9 P9 h9 hlen9 hfn9 hnd9 => ?_⟩
    have nlp : lp ≠ p := P8.ne hlp
    have hS9 : Src H9 p ln lp (nms rs ++ ws) pool := ⟨K9 _ _ nln h8, nln, by rw [List.length_append]; omega, fun x hx => by
      rcases List.mem_append.mp hx with z | z
      · obtain ⟨r', h1, rfl⟩ := List.mem_map.mp z
        exact (hgood r' h1).n
      · exact hkn7 x z, h9, nlp, hlen9, hnd9, hfn9⟩
    have hB9 : Bs K H9 p c l ln lp 2000 rs as (nms rs ++ ws) pool := ⟨P9.le (by decide), hR8.pen P8 K9, hS9⟩
    revert hB9
    generalize nms rs ++ ws = nl
    intro hB9
    refine for_seq ?_
    refine takeN (n := 4) rfl ev_c hB9.P (by decide) (by decide) (by decide) fun H10 d K10 P10 d0 d1 => ⟨_, _, rfl, rfl, ?_⟩
    have hB10 := hB9.pen K10 P10
    refine q_forR1 (n := 1 + d) ea_giv (by omega) (fun i σ' H' => ∃ (rs' : List Kd) (v6 v7 : Option V), σ' = [some (.ref a), some (.ref p), some (.ref l), some (.str r.name), some (.ref ln), some (.ref lp), v6, v7, none] ∧ Bs K H' p c l ln lp (2001 + 100 * i) rs' as nl pool ∧ rs'.length = rs.length ∧ ∀ r ∈ rs', RGood r) (fun H11 X11 => ⟨rs, none, none, rfl, hB10.mono X11, rfl, hgood⟩) ?_ ?_
    · rintro i σ' H11 hi ⟨rs', v6, v7, rfl, hB11, ll, hg11⟩
      have hi4 : i < 4 := by omega
      refine ⟨_, rfl, _, rfl, _, rfl, _, rfl, p, c, l, ln, lp, 2001 + 100 * i, rs', as, nl, pool, rfl, hB11, by omega, by omega, by omega, hg11, fun H12 rs2 hB12 ll2 hp2 => ?_⟩
      refine ⟨_, rfl, p, c, l, ln, lp, _, rs2, as, nl, pool, rfl, hB12, hp2, fun H13 rs3 hB13 ll3 hg3 => ?_⟩
      have n20 := hB13.S.n1
      have hkn := hB13.S.kn
      refine q_any (oneL (K := K) (xs := [.str r.name, .str r.name, .non, .int 0, .str "any", .str ""] ++ nl.map V.str) rfl ?_ hB13.P (by omega) (by rw [List.length_append]; show 0 < 6 + _; omega) (by rw [List.length_append, List.length_map]; show 6 + _ ≤ _; omega) fun H14 v hv K14 P14 => ?_)
      · refine el_catLV (p := ln) ?_ ?_ hB13.S.hn ?_
        · exact el_lst (ea_cons (ev_var rfl) (ea_cons (ev_var rfl) (ea_cons ev_c (ea_cons ev_c (ea_cons ev_c (ea_cons ev_c ea_nil)))))) (Nat.le_of_ble_eq_true rfl)
        · exact ev_var rfl
        · rw [List.length_map]; show 6 + _ ≤ _; omega
      obtain ⟨dv, pv⟩ : ∃ dv, AtV K v dv := by
        rcases List.mem_append.mp hv with z | z
        · simp only [List.mem_cons, List.not_mem_nil, or_false] at z
          rcases z with rfl | rfl | rfl | rfl | rfl | rfl
          · exact ⟨_, pr⟩
          · exact ⟨_, pr⟩
          · exact ⟨.none, rfl, fun H => .non⟩
          · exact ⟨.int 0, by decide +kernel, fun H => .int 0⟩
          · exact ⟨.str "any", by decide +kernel, fun H => .str _⟩
          · exact ⟨.str "", by decide +kernel, fun H => .str _⟩
        · obtain ⟨x, hx, rfl⟩ := List.mem_map.mp z
          exact ⟨.str x, knS_pl (hkn x hx), fun H => .str _⟩
      have hB14 := hB13.pen K14 P14
      have m1 : 1 ≤ rs3.length := by omega
      have m12 : rs3.length ≤ 12 := by omega
      refine s_when (b := false) (et_or (a := false) (b := false) (et_test (ev_neSame (K := K) (d := resD (.str r.name) (hres rs3 (.str r.name))) (el_told (ev_var rfl) (ev_var rfl) hB14.R.rs hg3 m1 m12 pr) (el_due (ev_var rfl) (ev_var rfl) hB14.R.rs hg3 m1 m12 pr) (fun H15 q h15 => dp_res pr.d h15) (fun H15 q h15 => dp_res pr.d h15) (shp_res pr.a (hres_pl hg3)))) fun _ => et_test (ev_is (ev_op (ev_repr (K := K) (d := resD dv (hres rs3 dv)) (el_told (ev_var rfl) (ev_var rfl) hB14.R.rs hg3 m1 m12 pv) (fun H15 q h15 => dp_res pv.d h15) (sw_res pv.a (hres_pl hg3))) (ev_repr (K := K) (d := resD dv (hres rs3 dv)) (el_due (ev_var rfl) (ev_var rfl) hB14.R.rs hg3 m1 m12 pv) (fun H15 q h15 => dp_res pv.d h15) (sw_res pv.a (hres_pl hg3))) (rv_ne rfl)) (by simp))) (fun z => nomatch z) fun _ H15 X15 => ?_
      exact ⟨rs3, _, _, rfl, (hB14.mono X15).le (by omega), by omega, hg3⟩
    · rintro σ' H11 ⟨rs', v6, v7, rfl, hB11, ll, hg11⟩
      refine ⟨_, rfl, oneL (K := K) (xs := [.int 12, .int 13]) rfl (el_lst (ea_cons ev_c (ea_cons ev_c ea_nil)) (Nat.le_of_ble_eq_true rfl)) hB11.P (by omega) (by decide) (by decide) fun H12 v hv K12 P12 => ?_⟩
      simp only [List.mem_cons, List.not_mem_nil, or_false] at hv
      rcases hv with rfl | rfl
      · exact ⟨p, c, _, 12, rfl, P12, by omega, .inl rfl, fun H' => kont H'⟩
      · exact ⟨p, c, _, 13, rfl, P12, by omega, .inr rfl, fun H' => kont H'⟩
end
end K03

namespace K03
open PySem L2
theorem all_mk {l : PySem.W.OpenLaw} {w : World} {K : PySem.W.Frag} {h : Heap} {mg : Str → Option Value} {fa f0 f1 f2 f3 f4 f5 f6 f7 f8 f9 f10 f11 f12 f13 f14 f15 f16 f17 f18 f19 f20 f21 f22 f23 f24 f25 f26 f27 f28 f29 f30 f31 f32 f33 f34 f35 f36 f37 f38 f39 f40 f41 f42 f43 f44 f45 f46 f47 f48 f49 f50 f51 f52 f53 f54 f55 f56 cda0 cc0 cda1 cc1 cda2 cc2 cda3 cc3 D11 TE11 D14 C0 N0 C1 N1 C2 N2 C3 N3 C4 N4 C5 C6 C7 MW4 : Addr} (X : K.In h) (G : h.Ns mainGlobals mg) (hfa : mg "law" = some (.ref fa))
    {od0 an0 od1 an1 od2 an2 od3 an3 od4 an4 od5 an5 od6 an6 od7 an7 od8 an8 od9 an9 od10 an10 od11 an11 od12 an12 od13 an13 od14 an14 od15 an15 od16 an16 od17 an17 od18 an18 od19 an19 od20 an20 od21 an21 od22 an22 od23 an23 od24 an24 od25 an25 od26 an26 od27 an27 od28 an28 od29 an29 od30 an30 od31 an31 od32 an32 od33 an33 od34 an34 od35 an35 od36 an36 od37 an37 od38 an38 od39 an39 od40 an40 od41 an41 od42 an42 od43 an43 od44 an44 od45 an45 od46 an46 od47 an47 od48 an48 od49 an49 od50 an50 od51 an51 od52 an52 od53 an53 od54 an54 od55 an55 od56 an56 cdd0 cld0 cdd1 cld1 cdd2 cld2 cdd3 cld3 : Option Addr} {sl0 sl1 sl2 sl3 sl4 sl5 sl6 sl7 sl8 sl9 sl10 sl11 sl12 sl13 sl14 sl15 sl16 sl17 sl18 sl19 sl20 sl21 sl22 sl23 sl24 sl25 sl26 sl27 sl28 sl29 sl30 sl31 sl32 sl33 sl34 sl35 sl36 sl37 sl38 sl39 sl40 sl41 sl42 sl43 sl44 sl45 sl46 sl47 sl48 sl49 sl50 sl51 sl52 sl53 sl54 sl55 sl56 ccs0 csl0 ccs1 csl1 ccs2 csl2 ccs3 csl3 : Array (Option Value)} {oc0 kV0 dc0 pm0 ct0 ccl0 cl0 oc1 kV1 dc1 pm1 ct1 ccl1 cl1 oc2 kV2 dc2 pm2 ct2 ccl2 cl2 oc3 kV3 dc3 pm3 ct3 ccl3 cl3 oc4 kV4 dc4 pm4 cd4 ct4 oc5 kV5 dc5 pm5 cd5 ct5 oc6 kV6 dc6 pm6 cd6 ct6 oc7 kV7 dc7 pm7 cd7 ct7 oc8 kV8 dc8 pm8 cd8 ct8 oc9 kV9 dc9 pm9 cd9 ct9 oc10 kV10 dc10 pm10 cd10 ct10 oc11 dc11 pm11 cd11 ct11 oc12 kV12 dc12 pm12 cd12 ct12 oc13 kV13 dc13 pm13 cd13 ct13 oc14 dc14 pm14 cd14 ct14 oc15 kV15 dc15 pm15 cd15 ct15 oc16 kV16 dc16 pm16 cd16 ct16 oc17 kV17 dc17 pm17 cd17 ct17 oc18 kV18 dc18 pm18 cd18 ct18 oc19 kV19 dc19 pm19 cd19 ct19 oc20 kV20 dc20 pm20 cd20 ct20 oc21 kV21 dc21 pm21 cd21 ct21 oc22 kV22 dc22 pm22 cd22 ct22 oc23 kV23 dc23 pm23 cd23 ct23 oc24 kV24 dc24 pm24 cd24 ct24 oc25 kV25 dc25 pm25 cd25 ct25 oc26 kV26 dc26 pm26 cd26 ct26 oc27 kV27 dc27 pm27 cd27 ct27 oc28 kV28 dc28 pm28 cd28 ct28 oc29 kV29 dc29 pm29 cd29 ct29 oc30 kV30 dc30 pm30 cd30 ct30 oc31 kV31 dc31 pm31 cd31 ct31 oc32 kV32 dc32 pm32 cd32 ct32 oc33 kV33 dc33 pm33 cd33 ct33 oc34 kV34 dc34 pm34 cd34 ct34 oc35 kV35 dc35 pm35 cd35 ct35 oc36 kV36 dc36 pm36 cd36 ct36 oc37 kV37 dc37 pm37 cd37 ct37 oc38 kV38 dc38 pm38 cd38 ct38 oc39 kV39 dc39 pm39 cd39 ct39 oc40 kV40 dc40 pm40 cd40 ct40 oc41 kV41 dc41 pm41 cd41 ct41 oc42 kV42 dc42 pm42 cd42 ct42 oc43 kV43 dc43 pm43 cd43 ct43 oc44 kV44 dc44 pm44 cd44 ct44 oc45 kV45 dc45 pm45 cd45 ct45 oc46 kV46 dc46 pm46 cd46 ct46 oc47 kV47 dc47 pm47 cd47 ct47 oc48 kV48 dc48 pm48 cd48 ct48 oc49 kV49 dc49 pm49 cd49 ct49 oc50 kV50 dc50 pm50 cd50 ct50 oc51 kV51 dc51 pm51 cd51 ct51 oc52 kV52 dc52 pm52 cd52 ct52 oc53 kV53 dc53 pm53 cd53 ct53 oc54 kV54 dc54 pm54 cd54 ct54 oc55 kV55 dc55 pm55 cd55 ct55 oc56 kV56 dc56 pm56 cd56 ct56 : Value}
    {vs0 vs1 vs2 vs3 : Array Value} {fl0 fl1 fl2 fl3 : Str} {tf0 tf1 tf2 tf3 : Tok}
    {wk11_1 : Tok}
    {teo11 : Option Addr} {ten11 : Nat} {tes11 : Array (Option Value)}
    {q0 : Str} {bs0 sub0 : List Value} {sn0 : List Str} {ab0 : Bool} {col0 : Option Bool} {dd0 : Option Addr} {m00 m10 m20 m30 m50 : Option Value}
    {q1 : Str} {bs1 sub1 : List Value} {sn1 : List Str} {ab1 : Bool} {col1 : Option Bool} {dd1 : Option Addr} {m01 m11 m21 m31 m51 : Option Value}
    {q2 : Str} {bs2 sub2 : List Value} {sn2 : List Str} {ab2 : Bool} {col2 : Option Bool} {dd2 : Option Addr} {m02 m12 m22 m32 m52 : Option Value}
    {q3 : Str} {bs3 sub3 : List Value} {sn3 : List Str} {ab3 : Bool} {col3 : Option Bool} {dd3 : Option Addr} {m03 m13 m23 m33 m53 : Option Value}
    {q4 : Str} {bs4 sub4 : List Value} {sn4 : List Str} {ab4 : Bool} {col4 : Option Bool} {dd4 : Option Addr} {m04 m14 m24 m34 m54 : Option Value}
    {it7_0 : Tok}
    {it7_1 : Tok}
    {mt0 : Tok}
    {mt1 : Tok}
    {mt2 : Tok}
    {mt3 : Tok}
    {mwd4 : Option Addr} {mwn4 : Nat} {mws4 : Array (Option Value)} {mwt4_0 mwt4_1 mwt4_2 : Tok}
    {mt5 : Tok}
    (gc0 : PySem.W.nsIn K mainGlobals "WayError" = some (some (.ref C0)))
    (xl0 : K.lookup C0 = some (excClassObj "WayError" q0 C0 N0 bs0 [.type "ValueError", .type "Exception", .type "BaseException", .type "object"] true sn0 sub0 ab0 col0 dd0 m00 m10 m20 m30 m50 "ValueError.__new__"))
    (ini : PySem.W.nsIn K N0 "__init__" = some none)
    (xhn : PySem.W.specialIn K (.builtin "object.__class__") "__get__" = some (some (.builtin "getset_descriptor.__get__")))
    (xht : PySem.W.takesIn K (.builtin "object.__class__") = some true)
    (xop : PySem.W.nsIn K cStatics "thirdparty.any" = some none)
    (top : (l.prog.main.scope.names.lookup ("super" : Str)).isSome = false)
    (gc1 : PySem.W.nsIn K mainGlobals "BadField" = some (some (.ref C1)))
    (xl1 : K.lookup C1 = some (excClassObj "BadField" q1 C1 N1 bs1 [.ref C0, .type "ValueError", .type "Exception", .type "BaseException", .type "object"] true sn1 sub1 ab1 col1 dd1 m01 m11 m21 m31 m51 "ValueError.__new__"))
    (sa1 : PySem.W.findIn K (.ref C1) "__setattr__" = some (some (.builtin "object.__setattr__")))
    (ga1 : PySem.W.findIn K (.ref C1) "__getattribute__" = some (some (.builtin "BaseException.__getattribute__")))
    (gg1 : PySem.W.findIn K (.ref C1) "__getattr__" = some none)
    (ha1 : PySem.W.findIn K (.ref C1) "__class__" = some (some (.builtin "object.__class__")))
    (kc1 : PySem.W.keepIn K (.ref C1) = true)
    (na1_0 : PySem.W.findIn K (.ref C1) "name" = some none)
    (gc2 : PySem.W.nsIn K mainGlobals "BadKind" = some (some (.ref C2)))
    (xl2 : K.lookup C2 = some (excClassObj "BadKind" q2 C2 N2 bs2 [.ref C0, .type "ValueError", .type "Exception", .type "BaseException", .type "object"] true sn2 sub2 ab2 col2 dd2 m02 m12 m22 m32 m52 "ValueError.__new__"))
    (sa2 : PySem.W.findIn K (.ref C2) "__setattr__" = some (some (.builtin "object.__setattr__")))
    (ga2 : PySem.W.findIn K (.ref C2) "__getattribute__" = some (some (.builtin "BaseException.__getattribute__")))
    (gg2 : PySem.W.findIn K (.ref C2) "__getattr__" = some none)
    (ha2 : PySem.W.findIn K (.ref C2) "__class__" = some (some (.builtin "object.__class__")))
    (kc2 : PySem.W.keepIn K (.ref C2) = true)
    (na2_0 : PySem.W.findIn K (.ref C2) "name" = some none)
    (gc3 : PySem.W.nsIn K mainGlobals "BadHouse" = some (some (.ref C3)))
    (xl3 : K.lookup C3 = some (excClassObj "BadHouse" q3 C3 N3 bs3 [.ref C0, .type "ValueError", .type "Exception", .type "BaseException", .type "object"] true sn3 sub3 ab3 col3 dd3 m03 m13 m23 m33 m53 "ValueError.__new__"))
    (sa3 : PySem.W.findIn K (.ref C3) "__setattr__" = some (some (.builtin "object.__setattr__")))
    (ga3 : PySem.W.findIn K (.ref C3) "__getattribute__" = some (some (.builtin "BaseException.__getattribute__")))
    (gg3 : PySem.W.findIn K (.ref C3) "__getattr__" = some none)
    (ha3 : PySem.W.findIn K (.ref C3) "__class__" = some (some (.builtin "object.__class__")))
    (kc3 : PySem.W.keepIn K (.ref C3) = true)
    (na3_0 : PySem.W.findIn K (.ref C3) "name" = some none)
    (gc4 : PySem.W.nsIn K mainGlobals "UnknownKind" = some (some (.ref C4)))
    (xl4 : K.lookup C4 = some (excClassObj "UnknownKind" q4 C4 N4 bs4 [.ref C0, .type "ValueError", .type "Exception", .type "BaseException", .type "object"] true sn4 sub4 ab4 col4 dd4 m04 m14 m24 m34 m54 "ValueError.__new__"))
    (sa4 : PySem.W.findIn K (.ref C4) "__setattr__" = some (some (.builtin "object.__setattr__")))
    (ga4 : PySem.W.findIn K (.ref C4) "__getattribute__" = some (some (.builtin "BaseException.__getattribute__")))
    (gg4 : PySem.W.findIn K (.ref C4) "__getattr__" = some none)
    (ha4 : PySem.W.findIn K (.ref C4) "__class__" = some (some (.builtin "object.__class__")))
    (kc4 : PySem.W.keepIn K (.ref C4) = true)
    (na4_0 : PySem.W.findIn K (.ref C4) "name" = some none)
    (gc5 : PySem.W.nsIn K mainGlobals "Field" = some (some (.ref C5)))
    (pg5 : PySem.W.plainGet K C5 Str.empty = true)
    (hd5 : PySem.W.hasDictIn K C5 = true)
    (po5 : PySem.W.plainOver K C5 = true)
    (sa5 : PySem.W.findIn K (.ref C5) "__setattr__" = some (some (.builtin "object.__setattr__")))
    (mk5 : PySem.W.makesIn K C5 = true)
    (kc5 : PySem.W.keepIn K (.ref C5) = true)
    (na5_0 : PySem.W.findIn K (.ref C5) "name" = some none)
    (na5_1 : PySem.W.findIn K (.ref C5) "mode" = some none)
    (na5_2 : PySem.W.findIn K (.ref C5) "target" = some none)
    (na5_3 : PySem.W.findIn K (.ref C5) "default" = some none)
    (na5_4 : PySem.W.findIn K (.ref C5) "was" = some none)
    (xic_Field_0 : PySem.W.findIn K (.ref C5) "__class__" = some (some (.builtin "object.__class__")))
    (xic_Field_1 : PySem.W.specialIn K (.builtin "object.__class__") "__get__" = some (some (.builtin "getset_descriptor.__get__")))
    (xic_Field_2 : PySem.W.takesIn K (.builtin "object.__class__") = some true)
    (xic_Field_3 : PySem.W.mroIn K C5 (.type "object") = some true)
    (xic_Field_4 : PySem.W.findIn K (.ref C5) "__ne__" = some (some (.builtin "object.__ne__")))
    (xic_Field_5 : PySem.W.selfFirst K C5 = true)
    (xic_Field_6 : PySem.W.typeIn K (.ref C5) = some (.type "type"))
    (gc6 : PySem.W.nsIn K mainGlobals "Kind" = some (some (.ref C6)))
    (pg6 : PySem.W.plainGet K C6 Str.empty = true)
    (hd6 : PySem.W.hasDictIn K C6 = true)
    (po6 : PySem.W.plainOver K C6 = true)
    (sa6 : PySem.W.findIn K (.ref C6) "__setattr__" = some (some (.builtin "object.__setattr__")))
    (mk6 : PySem.W.makesIn K C6 = true)
    (kc6 : PySem.W.keepIn K (.ref C6) = true)
    (na6_0 : PySem.W.findIn K (.ref C6) "name" = some none)
    (na6_1 : PySem.W.findIn K (.ref C6) "fields" = some none)
    (na6_2 : PySem.W.findIn K (.ref C6) "base" = some none)
    (na6_3 : PySem.W.findIn K (.ref C6) "frozen" = some none)
    (na6_4 : PySem.W.findIn K (.ref C6) "heirs" = some none)
    (na6_5 : PySem.W.findIn K (.ref C6) "key" = some none)
    (na6_6 : PySem.W.findIn K (.ref C6) "registered" = some none)
    (xic_Kind_0 : PySem.W.findIn K (.ref C6) "__class__" = some (some (.builtin "object.__class__")))
    (xic_Kind_1 : PySem.W.specialIn K (.builtin "object.__class__") "__get__" = some (some (.builtin "getset_descriptor.__get__")))
    (xic_Kind_2 : PySem.W.takesIn K (.builtin "object.__class__") = some true)
    (xic_Kind_3 : PySem.W.mroIn K C6 (.type "object") = some true)
    (xic_Kind_4 : PySem.W.findIn K (.ref C6) "__ne__" = some (some (.builtin "object.__ne__")))
    (xic_Kind_5 : PySem.W.selfFirst K C6 = true)
    (xic_Kind_6 : PySem.W.typeIn K (.ref C6) = some (.type "type"))
    (xns_Kind_0 : PySem.W.mroIn K C6 (.type "list") = some false)
    (xns_Kind_1 : PySem.W.mroIn K C6 (.type "tuple") = some false)
    (xnf_Kind_0 : PySem.W.mroIn K C5 (.ref C6) = some false)
    (xnf_Kind_1 : PySem.W.mroIn K C6 (.ref C6) = some true)
    (gc7 : PySem.W.nsIn K mainGlobals "House" = some (some (.ref C7)))
    (pg7 : PySem.W.plainGet K C7 Str.empty = true)
    (hd7 : PySem.W.hasDictIn K C7 = true)
    (po7 : PySem.W.plainOver K C7 = true)
    (sa7 : PySem.W.findIn K (.ref C7) "__setattr__" = some (some (.builtin "object.__setattr__")))
    (mk7 : PySem.W.makesIn K C7 = true)
    (kc7 : PySem.W.keepIn K (.ref C7) = true)
    (na7_0 : PySem.W.findIn K (.ref C7) "by_name" = some none)
    (na7_1 : PySem.W.findIn K (.ref C7) "described" = some none)
    (na7_2 : PySem.W.findIn K (.ref C7) "names" = some none)
    (na7_3 : PySem.W.findIn K (.ref C7) "root" = some none)
    (rd7 : PySem.W.readsIn K C7 (.type "type") = true)
    (cg7 : PySem.W.specialIn K (.ref C7) "__getattribute__" = some (some (.builtin "type.__getattribute__")))
    (ic7_0 : PySem.W.findCls K (.ref C7) (.type "type") "KINDS" = some (.val (.int 12 it7_0)))
    (ic7_1 : PySem.W.findCls K (.ref C7) (.type "type") "FIELDS" = some (.val (.int 10 it7_1)))
    (a0 : PySem.W.findIn K (.ref C1) "__init__" = some (some (.ref f0)))
    (l0 : K.lookup f0 = some ⟨oc0, od0, .func (PySem.W.fnX "__init__" "BadField.__init__" (defArgs s_BadField_init) (defBody s_BadField_init) (defScope s_BadField_init) [("__class__", cc0)] .none kV0 dc0 pm0 an0 (.ref cda0) ct0), sl0⟩)
    (c0 : PySem.W.codeIn K (.ref cda0) "BadField.__init__" = true)
    (t0 : PySem.W.typeIn K (.ref f0) = some (.type "function"))
    (lc0 : K.lookup cda0 = some ⟨ccl0, cdd0, .fields vs0, ccs0⟩)
    (lv0 : vs0[2]? = some (.str fl0 tf0))
    (lf0 : ((l.prog.main.file : Str) == fl0) = true)
    (ll0 : K.lookup cc0 = some ⟨cl0, cld0, .cell (some (.ref C1)), csl0⟩)
    (a1 : PySem.W.findIn K (.ref C2) "__init__" = some (some (.ref f1)))
    (l1 : K.lookup f1 = some ⟨oc1, od1, .func (PySem.W.fnX "__init__" "BadKind.__init__" (defArgs s_BadKind_init) (defBody s_BadKind_init) (defScope s_BadKind_init) [("__class__", cc1)] .none kV1 dc1 pm1 an1 (.ref cda1) ct1), sl1⟩)
    (c1 : PySem.W.codeIn K (.ref cda1) "BadKind.__init__" = true)
    (t1 : PySem.W.typeIn K (.ref f1) = some (.type "function"))
    (lc1 : K.lookup cda1 = some ⟨ccl1, cdd1, .fields vs1, ccs1⟩)
    (lv1 : vs1[2]? = some (.str fl1 tf1))
    (lf1 : ((l.prog.main.file : Str) == fl1) = true)
    (ll1 : K.lookup cc1 = some ⟨cl1, cld1, .cell (some (.ref C2)), csl1⟩)
    (a2 : PySem.W.findIn K (.ref C3) "__init__" = some (some (.ref f2)))
    (l2 : K.lookup f2 = some ⟨oc2, od2, .func (PySem.W.fnX "__init__" "BadHouse.__init__" (defArgs s_BadHouse_init) (defBody s_BadHouse_init) (defScope s_BadHouse_init) [("__class__", cc2)] .none kV2 dc2 pm2 an2 (.ref cda2) ct2), sl2⟩)
    (c2 : PySem.W.codeIn K (.ref cda2) "BadHouse.__init__" = true)
    (t2 : PySem.W.typeIn K (.ref f2) = some (.type "function"))
    (lc2 : K.lookup cda2 = some ⟨ccl2, cdd2, .fields vs2, ccs2⟩)
    (lv2 : vs2[2]? = some (.str fl2 tf2))
    (lf2 : ((l.prog.main.file : Str) == fl2) = true)
    (ll2 : K.lookup cc2 = some ⟨cl2, cld2, .cell (some (.ref C3)), csl2⟩)
    (a3 : PySem.W.findIn K (.ref C4) "__init__" = some (some (.ref f3)))
    (l3 : K.lookup f3 = some ⟨oc3, od3, .func (PySem.W.fnX "__init__" "UnknownKind.__init__" (defArgs s_UnknownKind_init) (defBody s_UnknownKind_init) (defScope s_UnknownKind_init) [("__class__", cc3)] .none kV3 dc3 pm3 an3 (.ref cda3) ct3), sl3⟩)
    (c3 : PySem.W.codeIn K (.ref cda3) "UnknownKind.__init__" = true)
    (t3 : PySem.W.typeIn K (.ref f3) = some (.type "function"))
    (lc3 : K.lookup cda3 = some ⟨ccl3, cdd3, .fields vs3, ccs3⟩)
    (lv3 : vs3[2]? = some (.str fl3 tf3))
    (lf3 : ((l.prog.main.file : Str) == fl3) = true)
    (ll3 : K.lookup cc3 = some ⟨cl3, cld3, .cell (some (.ref C4)), csl3⟩)
    (a4 : PySem.W.nsIn K mainGlobals "is_integer" = some (some (.ref f4))) (l4 : K.lookup f4 = some ⟨oc4, od4, .func (PySem.W.fnOf "is_integer" "is_integer" (defArgs s_is_integer) (defBody s_is_integer) (defScope s_is_integer) .none kV4 dc4 pm4 an4 cd4 ct4), sl4⟩) (c4 : PySem.W.codeIn K cd4 "is_integer" = true) (k4 : PySem.W.keepIn K (.ref f4) = true)
    (a5 : PySem.W.nsIn K mainGlobals "is_letters" = some (some (.ref f5))) (l5 : K.lookup f5 = some ⟨oc5, od5, .func (PySem.W.fnOf "is_letters" "is_letters" (defArgs s_is_letters) (defBody s_is_letters) (defScope s_is_letters) .none kV5 dc5 pm5 an5 cd5 ct5), sl5⟩) (c5 : PySem.W.codeIn K cd5 "is_letters" = true) (k5 : PySem.W.keepIn K (.ref f5) = true)
    (a6 : PySem.W.nsIn K mainGlobals "is_kind_name" = some (some (.ref f6))) (l6 : K.lookup f6 = some ⟨oc6, od6, .func (PySem.W.fnOf "is_kind_name" "is_kind_name" (defArgs s_is_kind_name) (defBody s_is_kind_name) (defScope s_is_kind_name) .none kV6 dc6 pm6 an6 cd6 ct6), sl6⟩) (c6 : PySem.W.codeIn K cd6 "is_kind_name" = true) (k6 : PySem.W.keepIn K (.ref f6) = true)
    (a7 : PySem.W.nsIn K mainGlobals "is_field_name" = some (some (.ref f7))) (l7 : K.lookup f7 = some ⟨oc7, od7, .func (PySem.W.fnOf "is_field_name" "is_field_name" (defArgs s_is_field_name) (defBody s_is_field_name) (defScope s_is_field_name) .none kV7 dc7 pm7 an7 cd7 ct7), sl7⟩) (c7 : PySem.W.codeIn K cd7 "is_field_name" = true) (k7 : PySem.W.keepIn K (.ref f7) = true)
    (a8 : PySem.W.nsIn K mainGlobals "is_target" = some (some (.ref f8))) (l8 : K.lookup f8 = some ⟨oc8, od8, .func (PySem.W.fnOf "is_target" "is_target" (defArgs s_is_target) (defBody s_is_target) (defScope s_is_target) .none kV8 dc8 pm8 an8 cd8 ct8), sl8⟩) (c8 : PySem.W.codeIn K cd8 "is_target" = true) (k8 : PySem.W.keepIn K (.ref f8) = true)
    (a9 : PySem.W.nsIn K mainGlobals "fits_mode" = some (some (.ref f9))) (l9 : K.lookup f9 = some ⟨oc9, od9, .func (PySem.W.fnOf "fits_mode" "fits_mode" (defArgs s_fits_mode) (defBody s_fits_mode) (defScope s_fits_mode) .none kV9 dc9 pm9 an9 cd9 ct9), sl9⟩) (c9 : PySem.W.codeIn K cd9 "fits_mode" = true) (k9 : PySem.W.keepIn K (.ref f9) = true)
    (a10 : PySem.W.nsIn K mainGlobals "are_elder_names" = some (some (.ref f10))) (l10 : K.lookup f10 = some ⟨oc10, od10, .func (PySem.W.fnOf "are_elder_names" "are_elder_names" (defArgs s_are_elder_names) (defBody s_are_elder_names) (defScope s_are_elder_names) .none kV10 dc10 pm10 an10 cd10 ct10), sl10⟩) (c10 : PySem.W.codeIn K cd10 "are_elder_names" = true) (k10 : PySem.W.keepIn K (.ref f10) = true)
    (a11 : PySem.W.findIn K (.ref C5) "__init__" = some (some (.ref f11))) (l11 : K.lookup f11 = some ⟨oc11, od11, .func (PySem.W.fnOf "__init__" "Field.__init__" (defArgs s_Field_init) (defBody s_Field_init) (defScope s_Field_init) .none (.ref D11) dc11 pm11 an11 cd11 ct11), sl11⟩) (c11 : PySem.W.codeIn K cd11 "Field.__init__" = true) (k11 : PySem.W.keepIn K (.ref f11) = true)
    (i11 : PySem.W.isFn K (.ref f11) = true)
    (w11_0 : PySem.W.nsIn K D11 "target" = some (some (.none)))
    (w11_1 : PySem.W.nsIn K D11 "default" = some (some (.int 0 wk11_1)))
    (w11_2 : PySem.W.nsIn K D11 "was" = some (some (.ref TE11)))
    (te11 : K.lookup TE11 = some ⟨.type "tuple", teo11, .seq #[] ten11, tes11⟩)
    (a12 : PySem.W.nsIn K mainGlobals "are_fields" = some (some (.ref f12))) (l12 : K.lookup f12 = some ⟨oc12, od12, .func (PySem.W.fnOf "are_fields" "are_fields" (defArgs s_are_fields) (defBody s_are_fields) (defScope s_are_fields) .none kV12 dc12 pm12 an12 cd12 ct12), sl12⟩) (c12 : PySem.W.codeIn K cd12 "are_fields" = true) (k12 : PySem.W.keepIn K (.ref f12) = true)
    (a13 : PySem.W.nsIn K mainGlobals "fits_flags" = some (some (.ref f13))) (l13 : K.lookup f13 = some ⟨oc13, od13, .func (PySem.W.fnOf "fits_flags" "fits_flags" (defArgs s_fits_flags) (defBody s_fits_flags) (defScope s_fits_flags) .none kV13 dc13 pm13 an13 cd13 ct13), sl13⟩) (c13 : PySem.W.codeIn K cd13 "fits_flags" = true) (k13 : PySem.W.keepIn K (.ref f13) = true)
    (a14 : PySem.W.findIn K (.ref C6) "__init__" = some (some (.ref f14))) (l14 : K.lookup f14 = some ⟨oc14, od14, .func (PySem.W.fnOf "__init__" "Kind.__init__" (defArgs s_Kind_init) (defBody s_Kind_init) (defScope s_Kind_init) .none (.ref D14) dc14 pm14 an14 cd14 ct14), sl14⟩) (c14 : PySem.W.codeIn K cd14 "Kind.__init__" = true) (k14 : PySem.W.keepIn K (.ref f14) = true)
    (i14 : PySem.W.isFn K (.ref f14) = true)
    (w14_0 : PySem.W.nsIn K D14 "base" = some (some (.none)))
    (w14_1 : PySem.W.nsIn K D14 "frozen" = some (some (.bool false)))
    (w14_2 : PySem.W.nsIn K D14 "heirs" = some (some (.bool false)))
    (w14_3 : PySem.W.nsIn K D14 "key" = some (some (.none)))
    (w14_4 : PySem.W.nsIn K D14 "registered" = some (some (.bool false)))
    (a15 : PySem.W.nsIn K mainGlobals "gathered" = some (some (.ref f15))) (l15 : K.lookup f15 = some ⟨oc15, od15, .func (PySem.W.fnOf "gathered" "gathered" (defArgs s_gathered) (defBody s_gathered) (defScope s_gathered) .none kV15 dc15 pm15 an15 cd15 ct15), sl15⟩) (c15 : PySem.W.codeIn K cd15 "gathered" = true) (k15 : PySem.W.keepIn K (.ref f15) = true)
    (a16 : PySem.W.nsIn K mainGlobals "fits_house" = some (some (.ref f16))) (l16 : K.lookup f16 = some ⟨oc16, od16, .func (PySem.W.fnOf "fits_house" "fits_house" (defArgs s_fits_house) (defBody s_fits_house) (defScope s_fits_house) .none kV16 dc16 pm16 an16 cd16 ct16), sl16⟩) (c16 : PySem.W.codeIn K cd16 "fits_house" = true) (k16 : PySem.W.keepIn K (.ref f16) = true)
    (a17 : PySem.W.findIn K (.ref C7) "__init__" = some (some (.ref f17))) (l17 : K.lookup f17 = some ⟨oc17, od17, .func (PySem.W.fnOf "__init__" "House.__init__" (defArgs s_House_init) (defBody s_House_init) (defScope s_House_init) .none kV17 dc17 pm17 an17 cd17 ct17), sl17⟩) (c17 : PySem.W.codeIn K cd17 "House.__init__" = true) (k17 : PySem.W.keepIn K (.ref f17) = true)
    (i17 : PySem.W.isFn K (.ref f17) = true)
    (a18 : PySem.W.findIn K (.ref C7) "leads_wrongly" = some (some (.ref f18))) (l18 : K.lookup f18 = some ⟨oc18, od18, .func (PySem.W.fnOf "leads_wrongly" "House.leads_wrongly" (defArgs s_House_leads_wrongly) (defBody s_House_leads_wrongly) (defScope s_House_leads_wrongly) .none kV18 dc18 pm18 an18 cd18 ct18), sl18⟩) (c18 : PySem.W.codeIn K cd18 "House.leads_wrongly" = true) (k18 : PySem.W.keepIn K (.ref f18) = true)
    (i18 : PySem.W.isFn K (.ref f18) = true)
    (a19 : PySem.W.findIn K (.ref C7) "__len__" = some (some (.ref f19))) (l19 : K.lookup f19 = some ⟨oc19, od19, .func (PySem.W.fnOf "__len__" "House.__len__" (defArgs s_House_len) (defBody s_House_len) (defScope s_House_len) .none kV19 dc19 pm19 an19 cd19 ct19), sl19⟩) (c19 : PySem.W.codeIn K cd19 "House.__len__" = true) (k19 : PySem.W.keepIn K (.ref f19) = true)
    (i19 : PySem.W.isFn K (.ref f19) = true)
    (a20 : PySem.W.findIn K (.ref C7) "__contains__" = some (some (.ref f20))) (l20 : K.lookup f20 = some ⟨oc20, od20, .func (PySem.W.fnOf "__contains__" "House.__contains__" (defArgs s_House_contains) (defBody s_House_contains) (defScope s_House_contains) .none kV20 dc20 pm20 an20 cd20 ct20), sl20⟩) (c20 : PySem.W.codeIn K cd20 "House.__contains__" = true) (k20 : PySem.W.keepIn K (.ref f20) = true)
    (i20 : PySem.W.isFn K (.ref f20) = true)
    (a21 : PySem.W.findIn K (.ref C7) "kind_named" = some (some (.ref f21))) (l21 : K.lookup f21 = some ⟨oc21, od21, .func (PySem.W.fnOf "kind_named" "House.kind_named" (defArgs s_House_kind_named) (defBody s_House_kind_named) (defScope s_House_kind_named) .none kV21 dc21 pm21 an21 cd21 ct21), sl21⟩) (c21 : PySem.W.codeIn K cd21 "House.kind_named" = true) (k21 : PySem.W.keepIn K (.ref f21) = true)
    (i21 : PySem.W.isFn K (.ref f21) = true)
    (a22 : PySem.W.findIn K (.ref C7) "fields_of" = some (some (.ref f22))) (l22 : K.lookup f22 = some ⟨oc22, od22, .func (PySem.W.fnOf "fields_of" "House.fields_of" (defArgs s_House_fields_of) (defBody s_House_fields_of) (defScope s_House_fields_of) .none kV22 dc22 pm22 an22 cd22 ct22), sl22⟩) (c22 : PySem.W.codeIn K cd22 "House.fields_of" = true) (k22 : PySem.W.keepIn K (.ref f22) = true)
    (i22 : PySem.W.isFn K (.ref f22) = true)
    (a23 : PySem.W.findIn K (.ref C7) "admitted" = some (some (.ref f23))) (l23 : K.lookup f23 = some ⟨oc23, od23, .func (PySem.W.fnOf "admitted" "House.admitted" (defArgs s_House_admitted) (defBody s_House_admitted) (defScope s_House_admitted) .none kV23 dc23 pm23 an23 cd23 ct23), sl23⟩) (c23 : PySem.W.codeIn K cd23 "House.admitted" = true) (k23 : PySem.W.keepIn K (.ref f23) = true)
    (i23 : PySem.W.isFn K (.ref f23) = true)
    (a24 : PySem.W.findIn K (.ref C7) "leads" = some (some (.ref f24))) (l24 : K.lookup f24 = some ⟨oc24, od24, .func (PySem.W.fnOf "leads" "House.leads" (defArgs s_House_leads) (defBody s_House_leads) (defScope s_House_leads) .none kV24 dc24 pm24 an24 cd24 ct24), sl24⟩) (c24 : PySem.W.codeIn K cd24 "House.leads" = true) (k24 : PySem.W.keepIn K (.ref f24) = true)
    (i24 : PySem.W.isFn K (.ref f24) = true)
    (a25 : PySem.W.findIn K (.ref C7) "leads_far" = some (some (.ref f25))) (l25 : K.lookup f25 = some ⟨oc25, od25, .func (PySem.W.fnOf "leads_far" "House.leads_far" (defArgs s_House_leads_far) (defBody s_House_leads_far) (defScope s_House_leads_far) .none kV25 dc25 pm25 an25 cd25 ct25), sl25⟩) (c25 : PySem.W.codeIn K cd25 "House.leads_far" = true) (k25 : PySem.W.keepIn K (.ref f25) = true)
    (i25 : PySem.W.isFn K (.ref f25) = true)
    (a26 : PySem.W.nsIn K mainGlobals "_law_pen" = some (some (.ref f26))) (l26 : K.lookup f26 = some ⟨oc26, od26, .func (PySem.W.fnOf "_law_pen" "_law_pen" (defArgs s_pen) (defBody s_pen) (defScope s_pen) .none kV26 dc26 pm26 an26 cd26 ct26), sl26⟩) (c26 : PySem.W.codeIn K cd26 "_law_pen" = true) (k26 : PySem.W.keepIn K (.ref f26) = true)
    (a27 : PySem.W.nsIn K mainGlobals "_law_take" = some (some (.ref f27))) (l27 : K.lookup f27 = some ⟨oc27, od27, .func (PySem.W.fnOf "_law_take" "_law_take" (defArgs s_take) (defBody s_take) (defScope s_take) .none kV27 dc27 pm27 an27 cd27 ct27), sl27⟩) (c27 : PySem.W.codeIn K cd27 "_law_take" = true) (k27 : PySem.W.keepIn K (.ref f27) = true)
    (a28 : PySem.W.nsIn K mainGlobals "_law_one_of" = some (some (.ref f28))) (l28 : K.lookup f28 = some ⟨oc28, od28, .func (PySem.W.fnOf "_law_one_of" "_law_one_of" (defArgs s_one_of) (defBody s_one_of) (defScope s_one_of) .none kV28 dc28 pm28 an28 cd28 ct28), sl28⟩) (c28 : PySem.W.codeIn K cd28 "_law_one_of" = true) (k28 : PySem.W.keepIn K (.ref f28) = true)
    (a29 : PySem.W.nsIn K mainGlobals "_law_word" = some (some (.ref f29))) (l29 : K.lookup f29 = some ⟨oc29, od29, .func (PySem.W.fnOf "_law_word" "_law_word" (defArgs s_word) (defBody s_word) (defScope s_word) .none kV29 dc29 pm29 an29 cd29 ct29), sl29⟩) (c29 : PySem.W.codeIn K cd29 "_law_word" = true) (k29 : PySem.W.keepIn K (.ref f29) = true)
    (a30 : PySem.W.nsIn K mainGlobals "_law_words" = some (some (.ref f30))) (l30 : K.lookup f30 = some ⟨oc30, od30, .func (PySem.W.fnOf "_law_words" "_law_words" (defArgs s_words) (defBody s_words) (defScope s_words) .none kV30 dc30 pm30 an30 cd30 ct30), sl30⟩) (c30 : PySem.W.codeIn K cd30 "_law_words" = true) (k30 : PySem.W.keepIn K (.ref f30) = true)
    (a31 : PySem.W.nsIn K mainGlobals "_law_kind_names" = some (some (.ref f31))) (l31 : K.lookup f31 = some ⟨oc31, od31, .func (PySem.W.fnOf "_law_kind_names" "_law_kind_names" (defArgs s_kind_names) (defBody s_kind_names) (defScope s_kind_names) .none kV31 dc31 pm31 an31 cd31 ct31), sl31⟩) (c31 : PySem.W.codeIn K cd31 "_law_kind_names" = true) (k31 : PySem.W.keepIn K (.ref f31) = true)
    (a32 : PySem.W.nsIn K mainGlobals "_law_row" = some (some (.ref f32))) (l32 : K.lookup f32 = some ⟨oc32, od32, .func (PySem.W.fnOf "_law_row" "_law_row" (defArgs s_row) (defBody s_row) (defScope s_row) .none kV32 dc32 pm32 an32 cd32 ct32), sl32⟩) (c32 : PySem.W.codeIn K cd32 "_law_row" = true) (k32 : PySem.W.keepIn K (.ref f32) = true)
    (a33 : PySem.W.nsIn K mainGlobals "_law_all_fields" = some (some (.ref f33))) (l33 : K.lookup f33 = some ⟨oc33, od33, .func (PySem.W.fnOf "_law_all_fields" "_law_all_fields" (defArgs s_all_fields) (defBody s_all_fields) (defScope s_all_fields) .none kV33 dc33 pm33 an33 cd33 ct33), sl33⟩) (c33 : PySem.W.codeIn K cd33 "_law_all_fields" = true) (k33 : PySem.W.keepIn K (.ref f33) = true)
    (a34 : PySem.W.nsIn K mainGlobals "_law_admitted" = some (some (.ref f34))) (l34 : K.lookup f34 = some ⟨oc34, od34, .func (PySem.W.fnOf "_law_admitted" "_law_admitted" (defArgs s_admitted) (defBody s_admitted) (defScope s_admitted) .none kV34 dc34 pm34 an34 cd34 ct34), sl34⟩) (c34 : PySem.W.codeIn K cd34 "_law_admitted" = true) (k34 : PySem.W.keepIn K (.ref f34) = true)
    (a35 : PySem.W.nsIn K mainGlobals "_law_leads" = some (some (.ref f35))) (l35 : K.lookup f35 = some ⟨oc35, od35, .func (PySem.W.fnOf "_law_leads" "_law_leads" (defArgs s_leads) (defBody s_leads) (defScope s_leads) .none kV35 dc35 pm35 an35 cd35 ct35), sl35⟩) (c35 : PySem.W.codeIn K cd35 "_law_leads" = true) (k35 : PySem.W.keepIn K (.ref f35) = true)
    (a36 : PySem.W.nsIn K mainGlobals "_law_leads_far" = some (some (.ref f36))) (l36 : K.lookup f36 = some ⟨oc36, od36, .func (PySem.W.fnOf "_law_leads_far" "_law_leads_far" (defArgs s_leads_far) (defBody s_leads_far) (defScope s_leads_far) .none kV36 dc36 pm36 an36 cd36 ct36), sl36⟩) (c36 : PySem.W.codeIn K cd36 "_law_leads_far" = true) (k36 : PySem.W.keepIn K (.ref f36) = true)
    (a37 : PySem.W.nsIn K mainGlobals "_law_was" = some (some (.ref f37))) (l37 : K.lookup f37 = some ⟨oc37, od37, .func (PySem.W.fnOf "_law_was" "_law_was" (defArgs s_was) (defBody s_was) (defScope s_was) .none kV37 dc37 pm37 an37 cd37 ct37), sl37⟩) (c37 : PySem.W.codeIn K cd37 "_law_was" = true) (k37 : PySem.W.keepIn K (.ref f37) = true)
    (a38 : PySem.W.nsIn K mainGlobals "_law_field" = some (some (.ref f38))) (l38 : K.lookup f38 = some ⟨oc38, od38, .func (PySem.W.fnOf "_law_field" "_law_field" (defArgs s_field) (defBody s_field) (defScope s_field) .none kV38 dc38 pm38 an38 cd38 ct38), sl38⟩) (c38 : PySem.W.codeIn K cd38 "_law_field" = true) (k38 : PySem.W.keepIn K (.ref f38) = true)
    (a39 : PySem.W.nsIn K mainGlobals "_law_flavour" = some (some (.ref f39))) (l39 : K.lookup f39 = some ⟨oc39, od39, .func (PySem.W.fnOf "_law_flavour" "_law_flavour" (defArgs s_flavour) (defBody s_flavour) (defScope s_flavour) .none kV39 dc39 pm39 an39 cd39 ct39), sl39⟩) (c39 : PySem.W.codeIn K cd39 "_law_flavour" = true) (k39 : PySem.W.keepIn K (.ref f39) = true)
    (a40 : PySem.W.nsIn K mainGlobals "_law_new_row" = some (some (.ref f40))) (l40 : K.lookup f40 = some ⟨oc40, od40, .func (PySem.W.fnOf "_law_new_row" "_law_new_row" (defArgs s_new_row) (defBody s_new_row) (defScope s_new_row) .none kV40 dc40 pm40 an40 cd40 ct40), sl40⟩) (c40 : PySem.W.codeIn K cd40 "_law_new_row" = true) (k40 : PySem.W.keepIn K (.ref f40) = true)
    (a41 : PySem.W.nsIn K mainGlobals "_law_house_rows" = some (some (.ref f41))) (l41 : K.lookup f41 = some ⟨oc41, od41, .func (PySem.W.fnOf "_law_house_rows" "_law_house_rows" (defArgs s_house_rows) (defBody s_house_rows) (defScope s_house_rows) .none kV41 dc41 pm41 an41 cd41 ct41), sl41⟩) (c41 : PySem.W.codeIn K cd41 "_law_house_rows" = true) (k41 : PySem.W.keepIn K (.ref f41) = true)
    (a42 : PySem.W.nsIn K mainGlobals "_law_root" = some (some (.ref f42))) (l42 : K.lookup f42 = some ⟨oc42, od42, .func (PySem.W.fnOf "_law_root" "_law_root" (defArgs s_root) (defBody s_root) (defScope s_root) .none kV42 dc42 pm42 an42 cd42 ct42), sl42⟩) (c42 : PySem.W.codeIn K cd42 "_law_root" = true) (k42 : PySem.W.keepIn K (.ref f42) = true)
    (a43 : PySem.W.nsIn K mainGlobals "_law_made_field" = some (some (.ref f43))) (l43 : K.lookup f43 = some ⟨oc43, od43, .func (PySem.W.fnOf "_law_made_field" "_law_made_field" (defArgs s_made_field) (defBody s_made_field) (defScope s_made_field) .none kV43 dc43 pm43 an43 cd43 ct43), sl43⟩) (c43 : PySem.W.codeIn K cd43 "_law_made_field" = true) (k43 : PySem.W.keepIn K (.ref f43) = true)
    (a44 : PySem.W.nsIn K mainGlobals "_law_made_kind" = some (some (.ref f44))) (l44 : K.lookup f44 = some ⟨oc44, od44, .func (PySem.W.fnOf "_law_made_kind" "_law_made_kind" (defArgs s_made_kind) (defBody s_made_kind) (defScope s_made_kind) .none kV44 dc44 pm44 an44 cd44 ct44), sl44⟩) (c44 : PySem.W.codeIn K cd44 "_law_made_kind" = true) (k44 : PySem.W.keepIn K (.ref f44) = true)
    (a45 : PySem.W.nsIn K mainGlobals "_law_longer" = some (some (.ref f45))) (l45 : K.lookup f45 = some ⟨oc45, od45, .func (PySem.W.fnOf "_law_longer" "_law_longer" (defArgs s_longer) (defBody s_longer) (defScope s_longer) .none kV45 dc45 pm45 an45 cd45 ct45), sl45⟩) (c45 : PySem.W.codeIn K cd45 "_law_longer" = true) (k45 : PySem.W.keepIn K (.ref f45) = true)
    (a46 : PySem.W.nsIn K mainGlobals "_law_based" = some (some (.ref f46))) (l46 : K.lookup f46 = some ⟨oc46, od46, .func (PySem.W.fnOf "_law_based" "_law_based" (defArgs s_based) (defBody s_based) (defScope s_based) .none kV46 dc46 pm46 an46 cd46 ct46), sl46⟩) (c46 : PySem.W.codeIn K cd46 "_law_based" = true) (k46 : PySem.W.keepIn K (.ref f46) = true)
    (a47 : PySem.W.nsIn K mainGlobals "_law_keyed" = some (some (.ref f47))) (l47 : K.lookup f47 = some ⟨oc47, od47, .func (PySem.W.fnOf "_law_keyed" "_law_keyed" (defArgs s_keyed) (defBody s_keyed) (defScope s_keyed) .none kV47 dc47 pm47 an47 cd47 ct47), sl47⟩) (c47 : PySem.W.codeIn K cd47 "_law_keyed" = true) (k47 : PySem.W.keepIn K (.ref f47) = true)
    (a48 : PySem.W.nsIn K mainGlobals "_law_bent" = some (some (.ref f48))) (l48 : K.lookup f48 = some ⟨oc48, od48, .func (PySem.W.fnOf "_law_bent" "_law_bent" (defArgs s_bent) (defBody s_bent) (defScope s_bent) .none kV48 dc48 pm48 an48 cd48 ct48), sl48⟩) (c48 : PySem.W.codeIn K cd48 "_law_bent" = true) (k48 : PySem.W.keepIn K (.ref f48) = true)
    (a49 : PySem.W.nsIn K mainGlobals "_law_doubled" = some (some (.ref f49))) (l49 : K.lookup f49 = some ⟨oc49, od49, .func (PySem.W.fnOf "_law_doubled" "_law_doubled" (defArgs s_doubled) (defBody s_doubled) (defScope s_doubled) .none kV49 dc49 pm49 an49 cd49 ct49), sl49⟩) (c49 : PySem.W.codeIn K cd49 "_law_doubled" = true) (k49 : PySem.W.keepIn K (.ref f49) = true)
    (a50 : PySem.W.nsIn K mainGlobals "_law_mended" = some (some (.ref f50))) (l50 : K.lookup f50 = some ⟨oc50, od50, .func (PySem.W.fnOf "_law_mended" "_law_mended" (defArgs s_mended) (defBody s_mended) (defScope s_mended) .none kV50 dc50 pm50 an50 cd50 ct50), sl50⟩) (c50 : PySem.W.codeIn K cd50 "_law_mended" = true) (k50 : PySem.W.keepIn K (.ref f50) = true)
    (a51 : PySem.W.nsIn K mainGlobals "_law_kind_right" = some (some (.ref f51))) (l51 : K.lookup f51 = some ⟨oc51, od51, .func (PySem.W.fnOf "_law_kind_right" "_law_kind_right" (defArgs s_kind_right) (defBody s_kind_right) (defScope s_kind_right) .none kV51 dc51 pm51 an51 cd51 ct51), sl51⟩) (c51 : PySem.W.codeIn K cd51 "_law_kind_right" = true) (k51 : PySem.W.keepIn K (.ref f51) = true)
    (a52 : PySem.W.nsIn K mainGlobals "_law_due" = some (some (.ref f52))) (l52 : K.lookup f52 = some ⟨oc52, od52, .func (PySem.W.fnOf "_law_due" "_law_due" (defArgs s_due) (defBody s_due) (defScope s_due) .none kV52 dc52 pm52 an52 cd52 ct52), sl52⟩) (c52 : PySem.W.codeIn K cd52 "_law_due" = true) (k52 : PySem.W.keepIn K (.ref f52) = true)
    (a53 : PySem.W.nsIn K mainGlobals "_law_told" = some (some (.ref f53))) (l53 : K.lookup f53 = some ⟨oc53, od53, .func (PySem.W.fnOf "_law_told" "_law_told" (defArgs s_told) (defBody s_told) (defScope s_told) .none kV53 dc53 pm53 an53 cd53 ct53), sl53⟩) (c53 : PySem.W.codeIn K cd53 "_law_told" = true) (k53 : PySem.W.keepIn K (.ref f53) = true)
    (a54 : PySem.W.nsIn K mainGlobals "_law_counted" = some (some (.ref f54))) (l54 : K.lookup f54 = some ⟨oc54, od54, .func (PySem.W.fnOf "_law_counted" "_law_counted" (defArgs s_counted) (defBody s_counted) (defScope s_counted) .none kV54 dc54 pm54 an54 cd54 ct54), sl54⟩) (c54 : PySem.W.codeIn K cd54 "_law_counted" = true) (k54 : PySem.W.keepIn K (.ref f54) = true)
    (a55 : PySem.W.nsIn K mainGlobals "_law_no_kinds" = some (some (.ref f55))) (l55 : K.lookup f55 = some ⟨oc55, od55, .func (PySem.W.fnOf "_law_no_kinds" "_law_no_kinds" (defArgs s_no_kinds) (defBody s_no_kinds) (defScope s_no_kinds) .none kV55 dc55 pm55 an55 cd55 ct55), sl55⟩) (c55 : PySem.W.codeIn K cd55 "_law_no_kinds" = true) (k55 : PySem.W.keepIn K (.ref f55) = true)
    (a56 : PySem.W.nsIn K mainGlobals "law" = some (some (.ref f56))) (l56 : K.lookup f56 = some ⟨oc56, od56, .func (PySem.W.fnOf "law" "law" (defArgs s_law) (defBody s_law) (defScope s_law) .none kV56 dc56 pm56 an56 cd56 ct56), sl56⟩) (c56 : PySem.W.codeIn K cd56 "law" = true) (k56 : PySem.W.keepIn K (.ref f56) = true)
    (gm0 : PySem.W.nsIn K mainGlobals "CAPITALS" = some (some (.str "ABCDEFGHIJKLMNOPQRSTUVWXYZ" mt0)))
    (gm1 : PySem.W.nsIn K mainGlobals "LETTERS" = some (some (.str "abcdefghijklmnopqrstuvwxyz" mt1)))
    (gm2 : PySem.W.nsIn K mainGlobals "MOST_DEFAULT" = some (some (.int 1000000000000 mt2)))
    (gm3 : PySem.W.nsIn K mainGlobals "ANY" = some (some (.str "any" mt3)))
    (gm4 : PySem.W.nsIn K mainGlobals "MODES" = some (some (.ref MW4))) (gw4 : K.lookup MW4 = some ⟨.type "tuple", mwd4, .seq #[.str "mark" mwt4_0, .str "link" mwt4_1, .str "list" mwt4_2] mwn4, mws4⟩)
    (gm5 : PySem.W.nsIn K mainGlobals "MOST_WAS" = some (some (.int 2 mt5)))
    (z0 : PySem.W.nsIn K mainGlobals "ValueError" = some none)
    (z1 : PySem.W.nsIn K mainGlobals "all" = some none)
    (z2 : PySem.W.nsIn K mainGlobals "range" = some none)
    (z3 : PySem.W.nsIn K mainGlobals "tuple" = some none)
    (z4 : PySem.W.nsIn K mainGlobals "isinstance" = some none)
    (z5 : PySem.W.nsIn K mainGlobals "int" = some none)
    (z6 : PySem.W.nsIn K mainGlobals "str" = some none)
    (z7 : PySem.W.nsIn K mainGlobals "len" = some none)
    (z8 : PySem.W.nsIn K mainGlobals "bool" = some none)
    (z9 : PySem.W.nsIn K mainGlobals "list" = some none)
    (z10 : PySem.W.nsIn K mainGlobals "any" = some none)
    (z11 : PySem.W.nsIn K mainGlobals "TypeError" = some none)
    (z12 : PySem.W.nsIn K mainGlobals "set" = some none)
    (z13 : PySem.W.nsIn K mainGlobals "super" = some none)
    (z14 : PySem.W.nsIn K mainGlobals "repr" = some none)
    : ∃ fd : FuncData, (∀ (s : Shared) (v : Value), BindsTo s fd ⟨[v], []⟩ [("_law_script", v)]) ∧ ∀ base : Heap, K.In base → base.Ns mainGlobals mg → Way.FnG l.prog w K mg base CX0 11 fa fd ["_law_script"] (spLaw K) := by
  have e := hfa.symm.trans (PySem.W.mg_of X G a56)
  cases e
  have FD11 : FunD K "__init__" "Field.__init__" (defArgs s_Field_init) (defBody s_Field_init) (defScope s_Field_init) [] [("target", .non), ("default", .int 0), ("was", .ref TE11)] f11 (PySem.W.fnOf "__init__" "Field.__init__" (defArgs s_Field_init) (defBody s_Field_init) (defScope s_Field_init) .none (.ref D11) dc11 pm11 an11 cd11 ct11) := ⟨⟨_, _, _, _, _, _, _, _, _, _, rfl, l11, c11, .inl ⟨rfl, rfl⟩, .inr ⟨D11, rfl, fun q hq => by
      rcases List.mem_cons.mp hq with rfl | hq
      · exact ⟨_, w11_0, rfl⟩
      rcases List.mem_cons.mp hq with rfl | hq
      · exact ⟨_, w11_1, ⟨_, rfl⟩⟩
      rcases List.mem_cons.mp hq with rfl | hq
      · exact ⟨_, w11_2, rfl⟩
      exact absurd hq List.not_mem_nil⟩⟩, k11⟩
  have FD14 : FunD K "__init__" "Kind.__init__" (defArgs s_Kind_init) (defBody s_Kind_init) (defScope s_Kind_init) [] [("base", .non), ("frozen", .bl false), ("heirs", .bl false), ("key", .non), ("registered", .bl false)] f14 (PySem.W.fnOf "__init__" "Kind.__init__" (defArgs s_Kind_init) (defBody s_Kind_init) (defScope s_Kind_init) .none (.ref D14) dc14 pm14 an14 cd14 ct14) := ⟨⟨_, _, _, _, _, _, _, _, _, _, rfl, l14, c14, .inl ⟨rfl, rfl⟩, .inr ⟨D14, rfl, fun q hq => by
      rcases List.mem_cons.mp hq with rfl | hq
      · exact ⟨_, w14_0, rfl⟩
      rcases List.mem_cons.mp hq with rfl | hq
      · exact ⟨_, w14_1, rfl⟩
      rcases List.mem_cons.mp hq with rfl | hq
      · exact ⟨_, w14_2, rfl⟩
      rcases List.mem_cons.mp hq with rfl | hq
      · exact ⟨_, w14_3, rfl⟩
      rcases List.mem_cons.mp hq with rfl | hq
      · exact ⟨_, w14_4, rfl⟩
      exact absurd hq List.not_mem_nil⟩⟩, k14⟩
  have XR : Way.XRoot K C0 N0 := ⟨⟨_, _, _, _, _, _, _, _, _, _, _, _, xl0⟩, ini⟩
  have XA : Way.XAll K := ⟨xhn, xht, xop⟩
  have XC1 : Way.XCls K "BadField" C1 N1 C0 := ⟨⟨_, _, _, _, _, _, _, _, _, _, _, _, xl1⟩, sa1, ga1, gg1, ha1, kc1⟩
  have XC2 : Way.XCls K "BadKind" C2 N2 C0 := ⟨⟨_, _, _, _, _, _, _, _, _, _, _, _, xl2⟩, sa2, ga2, gg2, ha2, kc2⟩
  have XC3 : Way.XCls K "BadHouse" C3 N3 C0 := ⟨⟨_, _, _, _, _, _, _, _, _, _, _, _, xl3⟩, sa3, ga3, gg3, ha3, kc3⟩
  have XC4 : Way.XCls K "UnknownKind" C4 N4 C0 := ⟨⟨_, _, _, _, _, _, _, _, _, _, _, _, xl4⟩, sa4, ga4, gg4, ha4, kc4⟩
  let T : Txt l.prog K mg := {
    f_BadField_init := f0, d_BadField_init := _, c_BadField_init := cda0, cc_BadField_init := cc0, B_BadField_init := fun s us _ hl => (match us, hl with | [_, _], _ => .of_eq rfl),
    S_BadField := XC1.supFn (st := s_BadField_init) XR XA ⟨_, _, _, _, _, _, _, _, rfl, l0⟩ c0 ⟨_, _, _, _, _, _, lc0, lv0, lf0⟩ ⟨_, _, _, ll0⟩ top, i_BadField := a0, t_BadField := t0,
    f_BadKind_init := f1, d_BadKind_init := _, c_BadKind_init := cda1, cc_BadKind_init := cc1, B_BadKind_init := fun s us _ hl => (match us, hl with | [_, _], _ => .of_eq rfl),
    S_BadKind := XC2.supFn (st := s_BadKind_init) XR XA ⟨_, _, _, _, _, _, _, _, rfl, l1⟩ c1 ⟨_, _, _, _, _, _, lc1, lv1, lf1⟩ ⟨_, _, _, ll1⟩ top, i_BadKind := a1, t_BadKind := t1,
    f_BadHouse_init := f2, d_BadHouse_init := _, c_BadHouse_init := cda2, cc_BadHouse_init := cc2, B_BadHouse_init := fun s us _ hl => (match us, hl with | [_, _], _ => .of_eq rfl),
    S_BadHouse := XC3.supFn (st := s_BadHouse_init) XR XA ⟨_, _, _, _, _, _, _, _, rfl, l2⟩ c2 ⟨_, _, _, _, _, _, lc2, lv2, lf2⟩ ⟨_, _, _, ll2⟩ top, i_BadHouse := a2, t_BadHouse := t2,
    f_UnknownKind_init := f3, d_UnknownKind_init := _, c_UnknownKind_init := cda3, cc_UnknownKind_init := cc3, B_UnknownKind_init := fun s us _ hl => (match us, hl with | [_, _], _ => .of_eq rfl),
    S_UnknownKind := XC4.supFn (st := s_UnknownKind_init) XR XA ⟨_, _, _, _, _, _, _, _, rfl, l3⟩ c3 ⟨_, _, _, _, _, _, lc3, lv3, lf3⟩ ⟨_, _, _, ll3⟩ top, i_UnknownKind := a3, t_UnknownKind := t3,
    f_is_integer := f4, d_is_integer := _, F_is_integer := fun_mk (st := s_is_integer) l4 c4 k4, B_is_integer := (fun_mk (st := s_is_integer) l4 c4 k4).binds (ps := P_is_integer) (fun _ _ _ _ _ _ us hl => match us, hl with | [_], _ => rfl), g_is_integer := PySem.W.mg_of X G a4,
    f_is_letters := f5, d_is_letters := _, F_is_letters := fun_mk (st := s_is_letters) l5 c5 k5, B_is_letters := (fun_mk (st := s_is_letters) l5 c5 k5).binds (ps := P_is_letters) (fun _ _ _ _ _ _ us hl => match us, hl with | [_], _ => rfl), g_is_letters := PySem.W.mg_of X G a5,
    f_is_kind_name := f6, d_is_kind_name := _, F_is_kind_name := fun_mk (st := s_is_kind_name) l6 c6 k6, B_is_kind_name := (fun_mk (st := s_is_kind_name) l6 c6 k6).binds (ps := P_is_kind_name) (fun _ _ _ _ _ _ us hl => match us, hl with | [_], _ => rfl), g_is_kind_name := PySem.W.mg_of X G a6,
    f_is_field_name := f7, d_is_field_name := _, F_is_field_name := fun_mk (st := s_is_field_name) l7 c7 k7, B_is_field_name := (fun_mk (st := s_is_field_name) l7 c7 k7).binds (ps := P_is_field_name) (fun _ _ _ _ _ _ us hl => match us, hl with | [_], _ => rfl), g_is_field_name := PySem.W.mg_of X G a7,
    f_is_target := f8, d_is_target := _, F_is_target := fun_mk (st := s_is_target) l8 c8 k8, B_is_target := (fun_mk (st := s_is_target) l8 c8 k8).binds (ps := P_is_target) (fun _ _ _ _ _ _ us hl => match us, hl with | [_], _ => rfl), g_is_target := PySem.W.mg_of X G a8,
    f_fits_mode := f9, d_fits_mode := _, F_fits_mode := fun_mk (st := s_fits_mode) l9 c9 k9, B_fits_mode := (fun_mk (st := s_fits_mode) l9 c9 k9).binds (ps := P_fits_mode) (fun _ _ _ _ _ _ us hl => match us, hl with | [_, _, _], _ => rfl), g_fits_mode := PySem.W.mg_of X G a9,
    f_are_elder_names := f10, d_are_elder_names := _, F_are_elder_names := fun_mk (st := s_are_elder_names) l10 c10 k10, B_are_elder_names := (fun_mk (st := s_are_elder_names) l10 c10 k10).binds (ps := P_are_elder_names) (fun _ _ _ _ _ _ us hl => match us, hl with | [_, _], _ => rfl), g_are_elder_names := PySem.W.mg_of X G a10,
    f_Field_init := f11, d_Field_init := _, F_Field_init := FD11, e0_Field_init := TE11, et_Field_init := fun H => .inr ⟨_, _, _, te11, rfl, rfl, Nat.zero_le _, .nil⟩,
    f_are_fields := f12, d_are_fields := _, F_are_fields := fun_mk (st := s_are_fields) l12 c12 k12, B_are_fields := (fun_mk (st := s_are_fields) l12 c12 k12).binds (ps := P_are_fields) (fun _ _ _ _ _ _ us hl => match us, hl with | [_, _], _ => rfl), g_are_fields := PySem.W.mg_of X G a12,
    f_fits_flags := f13, d_fits_flags := _, F_fits_flags := fun_mk (st := s_fits_flags) l13 c13 k13, B_fits_flags := (fun_mk (st := s_fits_flags) l13 c13 k13).binds (ps := P_fits_flags) (fun _ _ _ _ _ _ us hl => match us, hl with | [_, _, _], _ => rfl), g_fits_flags := PySem.W.mg_of X G a13,
    f_Kind_init := f14, d_Kind_init := _, F_Kind_init := FD14,
    f_gathered := f15, d_gathered := _, F_gathered := fun_mk (st := s_gathered) l15 c15 k15, B_gathered := (fun_mk (st := s_gathered) l15 c15 k15).binds (ps := P_gathered) (fun _ _ _ _ _ _ us hl => match us, hl with | [_, _], _ => rfl), g_gathered := PySem.W.mg_of X G a15,
    f_fits_house := f16, d_fits_house := _, F_fits_house := fun_mk (st := s_fits_house) l16 c16 k16, B_fits_house := (fun_mk (st := s_fits_house) l16 c16 k16).binds (ps := P_fits_house) (fun _ _ _ _ _ _ us hl => match us, hl with | [_, _, _], _ => rfl), g_fits_house := PySem.W.mg_of X G a16,
    f_House_init := f17, d_House_init := _, F_House_init := fun_mk (st := s_House_init) l17 c17 k17, B_House_init := (fun_mk (st := s_House_init) l17 c17 k17).binds (ps := P_House_init) (fun _ _ _ _ _ _ us hl => match us, hl with | [_, _, _], _ => rfl),
    f_House_leads_wrongly := f18, d_House_leads_wrongly := _, F_House_leads_wrongly := fun_mk (st := s_House_leads_wrongly) l18 c18 k18, B_House_leads_wrongly := (fun_mk (st := s_House_leads_wrongly) l18 c18 k18).binds (ps := P_House_leads_wrongly) (fun _ _ _ _ _ _ us hl => match us, hl with | [_, _], _ => rfl),
    f_House_len := f19, d_House_len := _, F_House_len := fun_mk (st := s_House_len) l19 c19 k19, B_House_len := (fun_mk (st := s_House_len) l19 c19 k19).binds (ps := P_House_len) (fun _ _ _ _ _ _ us hl => match us, hl with | [_], _ => rfl),
    f_House_contains := f20, d_House_contains := _, F_House_contains := fun_mk (st := s_House_contains) l20 c20 k20, B_House_contains := (fun_mk (st := s_House_contains) l20 c20 k20).binds (ps := P_House_contains) (fun _ _ _ _ _ _ us hl => match us, hl with | [_, _], _ => rfl),
    f_House_kind_named := f21, d_House_kind_named := _, F_House_kind_named := fun_mk (st := s_House_kind_named) l21 c21 k21, B_House_kind_named := (fun_mk (st := s_House_kind_named) l21 c21 k21).binds (ps := P_House_kind_named) (fun _ _ _ _ _ _ us hl => match us, hl with | [_, _], _ => rfl),
    f_House_fields_of := f22, d_House_fields_of := _, F_House_fields_of := fun_mk (st := s_House_fields_of) l22 c22 k22, B_House_fields_of := (fun_mk (st := s_House_fields_of) l22 c22 k22).binds (ps := P_House_fields_of) (fun _ _ _ _ _ _ us hl => match us, hl with | [_, _], _ => rfl),
    f_House_admitted := f23, d_House_admitted := _, F_House_admitted := fun_mk (st := s_House_admitted) l23 c23 k23, B_House_admitted := (fun_mk (st := s_House_admitted) l23 c23 k23).binds (ps := P_House_admitted) (fun _ _ _ _ _ _ us hl => match us, hl with | [_, _], _ => rfl),
    f_House_leads := f24, d_House_leads := _, F_House_leads := fun_mk (st := s_House_leads) l24 c24 k24, B_House_leads := (fun_mk (st := s_House_leads) l24 c24 k24).binds (ps := P_House_leads) (fun _ _ _ _ _ _ us hl => match us, hl with | [_, _], _ => rfl),
    f_House_leads_far := f25, d_House_leads_far := _, F_House_leads_far := fun_mk (st := s_House_leads_far) l25 c25 k25, B_House_leads_far := (fun_mk (st := s_House_leads_far) l25 c25 k25).binds (ps := P_House_leads_far) (fun _ _ _ _ _ _ us hl => match us, hl with | [_, _], _ => rfl),
    f_pen := f26, d_pen := _, F_pen := fun_mk (st := s_pen) l26 c26 k26, B_pen := (fun_mk (st := s_pen) l26 c26 k26).binds (ps := P_pen) (fun _ _ _ _ _ _ us hl => match us, hl with | [_], _ => rfl), g_pen := PySem.W.mg_of X G a26,
    f_take := f27, d_take := _, F_take := fun_mk (st := s_take) l27 c27 k27, B_take := (fun_mk (st := s_take) l27 c27 k27).binds (ps := P_take) (fun _ _ _ _ _ _ us hl => match us, hl with | [_, _], _ => rfl), g_take := PySem.W.mg_of X G a27,
    f_one_of := f28, d_one_of := _, F_one_of := fun_mk (st := s_one_of) l28 c28 k28, B_one_of := (fun_mk (st := s_one_of) l28 c28 k28).binds (ps := P_one_of) (fun _ _ _ _ _ _ us hl => match us, hl with | [_, _], _ => rfl), g_one_of := PySem.W.mg_of X G a28,
    f_word := f29, d_word := _, F_word := fun_mk (st := s_word) l29 c29 k29, B_word := (fun_mk (st := s_word) l29 c29 k29).binds (ps := P_word) (fun _ _ _ _ _ _ us hl => match us, hl with | [_, _, _, _, _], _ => rfl), g_word := PySem.W.mg_of X G a29,
    f_words := f30, d_words := _, F_words := fun_mk (st := s_words) l30 c30 k30, B_words := (fun_mk (st := s_words) l30 c30 k30).binds (ps := P_words) (fun _ _ _ _ _ _ us hl => match us, hl with | [_, _, _], _ => rfl), g_words := PySem.W.mg_of X G a30,
    f_kind_names := f31, d_kind_names := _, F_kind_names := fun_mk (st := s_kind_names) l31 c31 k31, B_kind_names := (fun_mk (st := s_kind_names) l31 c31 k31).binds (ps := P_kind_names) (fun _ _ _ _ _ _ us hl => match us, hl with | [_, _], _ => rfl), g_kind_names := PySem.W.mg_of X G a31,
    f_row := f32, d_row := _, F_row := fun_mk (st := s_row) l32 c32 k32, B_row := (fun_mk (st := s_row) l32 c32 k32).binds (ps := P_row) (fun _ _ _ _ _ _ us hl => match us, hl with | [_, _], _ => rfl), g_row := PySem.W.mg_of X G a32,
    f_all_fields := f33, d_all_fields := _, F_all_fields := fun_mk (st := s_all_fields) l33 c33 k33, B_all_fields := (fun_mk (st := s_all_fields) l33 c33 k33).binds (ps := P_all_fields) (fun _ _ _ _ _ _ us hl => match us, hl with | [_, _], _ => rfl), g_all_fields := PySem.W.mg_of X G a33,
    f_admitted := f34, d_admitted := _, F_admitted := fun_mk (st := s_admitted) l34 c34 k34, B_admitted := (fun_mk (st := s_admitted) l34 c34 k34).binds (ps := P_admitted) (fun _ _ _ _ _ _ us hl => match us, hl with | [_, _], _ => rfl), g_admitted := PySem.W.mg_of X G a34,
    f_leads := f35, d_leads := _, F_leads := fun_mk (st := s_leads) l35 c35 k35, B_leads := (fun_mk (st := s_leads) l35 c35 k35).binds (ps := P_leads) (fun _ _ _ _ _ _ us hl => match us, hl with | [_, _], _ => rfl), g_leads := PySem.W.mg_of X G a35,
    f_leads_far := f36, d_leads_far := _, F_leads_far := fun_mk (st := s_leads_far) l36 c36 k36, B_leads_far := (fun_mk (st := s_leads_far) l36 c36 k36).binds (ps := P_leads_far) (fun _ _ _ _ _ _ us hl => match us, hl with | [_, _], _ => rfl), g_leads_far := PySem.W.mg_of X G a36,
    f_was := f37, d_was := _, F_was := fun_mk (st := s_was) l37 c37 k37, B_was := (fun_mk (st := s_was) l37 c37 k37).binds (ps := P_was) (fun _ _ _ _ _ _ us hl => match us, hl with | [_, _, _], _ => rfl), g_was := PySem.W.mg_of X G a37,
    f_field := f38, d_field := _, F_field := fun_mk (st := s_field) l38 c38 k38, B_field := (fun_mk (st := s_field) l38 c38 k38).binds (ps := P_field) (fun _ _ _ _ _ _ us hl => match us, hl with | [_, _, _, _, _], _ => rfl), g_field := PySem.W.mg_of X G a38,
    f_flavour := f39, d_flavour := _, F_flavour := fun_mk (st := s_flavour) l39 c39 k39, B_flavour := (fun_mk (st := s_flavour) l39 c39 k39).binds (ps := P_flavour) (fun _ _ _ _ _ _ us hl => match us, hl with | [_, _], _ => rfl), g_flavour := PySem.W.mg_of X G a39,
    f_new_row := f40, d_new_row := _, F_new_row := fun_mk (st := s_new_row) l40 c40 k40, B_new_row := (fun_mk (st := s_new_row) l40 c40 k40).binds (ps := P_new_row) (fun _ _ _ _ _ _ us hl => match us, hl with | [_, _, _, _], _ => rfl), g_new_row := PySem.W.mg_of X G a40,
    f_house_rows := f41, d_house_rows := _, F_house_rows := fun_mk (st := s_house_rows) l41 c41 k41, B_house_rows := (fun_mk (st := s_house_rows) l41 c41 k41).binds (ps := P_house_rows) (fun _ _ _ _ _ _ us hl => match us, hl with | [_, _], _ => rfl), g_house_rows := PySem.W.mg_of X G a41,
    f_root := f42, d_root := _, F_root := fun_mk (st := s_root) l42 c42 k42, B_root := (fun_mk (st := s_root) l42 c42 k42).binds (ps := P_root) (fun _ _ _ _ _ _ us hl => match us, hl with | [_, _], _ => rfl), g_root := PySem.W.mg_of X G a42,
    f_made_field := f43, d_made_field := _, F_made_field := fun_mk (st := s_made_field) l43 c43 k43, B_made_field := (fun_mk (st := s_made_field) l43 c43 k43).binds (ps := P_made_field) (fun _ _ _ _ _ _ us hl => match us, hl with | [_], _ => rfl), g_made_field := PySem.W.mg_of X G a43,
    f_made_kind := f44, d_made_kind := _, F_made_kind := fun_mk (st := s_made_kind) l44 c44 k44, B_made_kind := (fun_mk (st := s_made_kind) l44 c44 k44).binds (ps := P_made_kind) (fun _ _ _ _ _ _ us hl => match us, hl with | [_], _ => rfl), g_made_kind := PySem.W.mg_of X G a44,
    f_longer := f45, d_longer := _, F_longer := fun_mk (st := s_longer) l45 c45 k45, B_longer := (fun_mk (st := s_longer) l45 c45 k45).binds (ps := P_longer) (fun _ _ _ _ _ _ us hl => match us, hl with | [_, _, _, _], _ => rfl), g_longer := PySem.W.mg_of X G a45,
    f_based := f46, d_based := _, F_based := fun_mk (st := s_based) l46 c46 k46, B_based := (fun_mk (st := s_based) l46 c46 k46).binds (ps := P_based) (fun _ _ _ _ _ _ us hl => match us, hl with | [_, _, _], _ => rfl), g_based := PySem.W.mg_of X G a46,
    f_keyed := f47, d_keyed := _, F_keyed := fun_mk (st := s_keyed) l47 c47 k47, B_keyed := (fun_mk (st := s_keyed) l47 c47 k47).binds (ps := P_keyed) (fun _ _ _ _ _ _ us hl => match us, hl with | [_, _, _], _ => rfl), g_keyed := PySem.W.mg_of X G a47,
    f_bent := f48, d_bent := _, F_bent := fun_mk (st := s_bent) l48 c48 k48, B_bent := (fun_mk (st := s_bent) l48 c48 k48).binds (ps := P_bent) (fun _ _ _ _ _ _ us hl => match us, hl with | [_, _, _, _], _ => rfl), g_bent := PySem.W.mg_of X G a48,
    f_doubled := f49, d_doubled := _, F_doubled := fun_mk (st := s_doubled) l49 c49 k49, B_doubled := (fun_mk (st := s_doubled) l49 c49 k49).binds (ps := P_doubled) (fun _ _ _ _ _ _ us hl => match us, hl with | [_], _ => rfl), g_doubled := PySem.W.mg_of X G a49,
    f_mended := f50, d_mended := _, F_mended := fun_mk (st := s_mended) l50 c50 k50, B_mended := (fun_mk (st := s_mended) l50 c50 k50).binds (ps := P_mended) (fun _ _ _ _ _ _ us hl => match us, hl with | [_], _ => rfl), g_mended := PySem.W.mg_of X G a50,
    f_kind_right := f51, d_kind_right := _, F_kind_right := fun_mk (st := s_kind_right) l51 c51 k51, B_kind_right := (fun_mk (st := s_kind_right) l51 c51 k51).binds (ps := P_kind_right) (fun _ _ _ _ _ _ us hl => match us, hl with | [_, _], _ => rfl), g_kind_right := PySem.W.mg_of X G a51,
    f_due := f52, d_due := _, F_due := fun_mk (st := s_due) l52 c52 k52, B_due := (fun_mk (st := s_due) l52 c52 k52).binds (ps := P_due) (fun _ _ _ _ _ _ us hl => match us, hl with | [_, _], _ => rfl), g_due := PySem.W.mg_of X G a52,
    f_told := f53, d_told := _, F_told := fun_mk (st := s_told) l53 c53 k53, B_told := (fun_mk (st := s_told) l53 c53 k53).binds (ps := P_told) (fun _ _ _ _ _ _ us hl => match us, hl with | [_, _], _ => rfl), g_told := PySem.W.mg_of X G a53,
    f_counted := f54, d_counted := _, F_counted := fun_mk (st := s_counted) l54 c54 k54, B_counted := (fun_mk (st := s_counted) l54 c54 k54).binds (ps := P_counted) (fun _ _ _ _ _ _ us hl => match us, hl with | [_, _], _ => rfl), g_counted := PySem.W.mg_of X G a54,
    f_no_kinds := f55, d_no_kinds := _, F_no_kinds := fun_mk (st := s_no_kinds) l55 c55 k55, B_no_kinds := (fun_mk (st := s_no_kinds) l55 c55 k55).binds (ps := P_no_kinds) (fun _ _ _ _ _ _ us hl => match us, hl with | [_, _, _], _ => rfl), g_no_kinds := PySem.W.mg_of X G a55,
    f_law := fa, d_law := _, F_law := fun_mk (st := s_law) l56 c56 k56, B_law := (fun_mk (st := s_law) l56 c56 k56).binds (ps := P_law) (fun _ _ _ _ _ _ us hl => match us, hl with | [_], _ => rfl), g_law := PySem.W.mg_of X G a56,
    C_WayError := C0, nsp_WayError := N0, g_WayError := PySem.W.mg_of X G gc0, r_WayError := XR, xall := XA,
    C_BadField := C1, nsp_BadField := N1, g_BadField := PySem.W.mg_of X G gc1, X_BadField := XC1,
    na_BadField_name := na1_0,
    C_BadKind := C2, nsp_BadKind := N2, g_BadKind := PySem.W.mg_of X G gc2, X_BadKind := XC2,
    na_BadKind_name := na2_0,
    C_BadHouse := C3, nsp_BadHouse := N3, g_BadHouse := PySem.W.mg_of X G gc3, X_BadHouse := XC3,
    na_BadHouse_name := na3_0,
    C_UnknownKind := C4, nsp_UnknownKind := N4, g_UnknownKind := PySem.W.mg_of X G gc4, X_UnknownKind := XC4,
    na_UnknownKind_name := na4_0,
    C_Field := C5, g_Field := PySem.W.mg_of X G gc5, cl_Field := ⟨pg5, hd5, po5, sa5⟩,
    M_Field := ⟨mk5, a11, i11, kc5⟩,
    na_Field_name := na5_0,
    na_Field_mode := na5_1,
    na_Field_target := na5_2,
    na_Field_default := na5_3,
    na_Field_was := na5_4,
    ic_Field := ⟨xic_Field_0, xic_Field_1, xic_Field_2, xic_Field_3, xic_Field_4, xic_Field_5, xic_Field_6⟩,
    C_Kind := C6, g_Kind := PySem.W.mg_of X G gc6, cl_Kind := ⟨pg6, hd6, po6, sa6⟩,
    M_Kind := ⟨mk6, a14, i14, kc6⟩,
    na_Kind_name := na6_0,
    na_Kind_fields := na6_1,
    na_Kind_base := na6_2,
    na_Kind_frozen := na6_3,
    na_Kind_heirs := na6_4,
    na_Kind_key := na6_5,
    na_Kind_registered := na6_6,
    ic_Kind := ⟨xic_Kind_0, xic_Kind_1, xic_Kind_2, xic_Kind_3, xic_Kind_4, xic_Kind_5, xic_Kind_6⟩,
    ns_Kind := ⟨xns_Kind_0, xns_Kind_1⟩,
    nf_Kind := ⟨xnf_Kind_0, xnf_Kind_1⟩,
    C_House := C7, g_House := PySem.W.mg_of X G gc7, cl_House := ⟨pg7, hd7, po7, sa7⟩,
    M_House := ⟨mk7, a17, i17, kc7⟩,
    na_House_by_name := na7_0,
    na_House_described := na7_1,
    na_House_names := na7_2,
    na_House_root := na7_3,
    cr_House := ⟨rd7, cg7⟩,
    tk_House_KINDS := it7_0, cv_House_KINDS := ⟨ic7_0, ⟨_, rfl⟩⟩,
    tk_House_FIELDS := it7_1, cv_House_FIELDS := ⟨ic7_1, ⟨_, rfl⟩⟩,
    m_House_leads_wrongly := ⟨a18, i18, k18⟩,
    m_House_len := ⟨a19, i19, k19⟩,
    m_House_contains := ⟨a20, i20, k20⟩,
    m_House_kind_named := ⟨a21, i21, k21⟩,
    m_House_fields_of := ⟨a22, i22, k22⟩,
    m_House_admitted := ⟨a23, i23, k23⟩,
    m_House_leads := ⟨a24, i24, k24⟩,
    m_House_leads_far := ⟨a25, i25, k25⟩,
    tk_CAPITALS := mt0, g_CAPITALS := PySem.W.mg_of X G gm0,
    tk_LETTERS := mt1, g_LETTERS := PySem.W.mg_of X G gm1,
    tk_MOST_DEFAULT := mt2, g_MOST_DEFAULT := PySem.W.mg_of X G gm2,
    tk_ANY := mt3, g_ANY := PySem.W.mg_of X G gm3,
    w_MODES := MW4, g_MODES := PySem.W.mg_of X G gm4, ct_MODES := fun H => .inr ⟨_, _, _, gw4, rfl, rfl, Nat.le_of_ble_eq_true rfl, .cons ⟨_, rfl⟩ (.cons ⟨_, rfl⟩ (.cons ⟨_, rfl⟩ (.nil)))⟩,
    tk_MOST_WAS := mt5, g_MOST_WAS := PySem.W.mg_of X G gm5,
    b_ValueError := PySem.W.mg_none_of X G z0,
    b_all := PySem.W.mg_none_of X G z1,
    b_range := PySem.W.mg_none_of X G z2,
    b_tuple := PySem.W.mg_none_of X G z3,
    b_isinstance := PySem.W.mg_none_of X G z4,
    b_int := PySem.W.mg_none_of X G z5,
    b_str := PySem.W.mg_none_of X G z6,
    b_len := PySem.W.mg_none_of X G z7,
    b_bool := PySem.W.mg_none_of X G z8,
    b_list := PySem.W.mg_none_of X G z9,
    b_any := PySem.W.mg_none_of X G z10,
    b_TypeError := PySem.W.mg_none_of X G z11,
    b_set := PySem.W.mg_none_of X G z12,
    b_super := PySem.W.mg_none_of X G z13,
    b_repr := PySem.W.mg_none_of X G z14 }
  exact ⟨PySem.W.fnOf "law" "law" (defArgs s_law) (defBody s_law) (defScope s_law) .none kV56 dc56 pm56 an56 cd56 ct56, fun s v => .of_eq rfl, fun base _ _ => ok_law T⟩
theorem walk {l : PySem.W.OpenLaw} {q : Program} {loose : List Str} {XP : (Str → Option Value) → Heap → Prop} {YP : World → Heap → Prop} {d : DefRec} {K : Params → PySem.W.Frag} (hn : l.most = some 63) (hdf : d.params.defaults = [])
    (hY : ∀ (w : World) (h : Heap), YP w h → (K w.params).In h)
    (F : ∀ (w : World) (mg : Str → Option Value) (fa : Addr) (h : Heap), (K w.params).In h → h.Ns mainGlobals mg → mg d.name = some (.ref fa) →
      ∃ fd : FuncData, (∀ (s : Shared) (u : Value), BindsTo s fd ⟨[u], []⟩ [("_law_script", u)]) ∧ ∀ base : Heap, (K w.params).In base → base.Ns mainGlobals mg → Way.FnG l.prog w (K w.params) mg base CX0 11 fa fd ["_law_script"] (spLaw (K w.params))) :
    PySem.W.WalkO q loose XP YP l.row.toRowW d [] (fun f vs => PySem.call f vs) :=
  Way.walk_ofG (n := 63) (k := 11) (x := "_law_script") (CX := fun _ => CX0) (sp := fun w => spLaw (K w.params)) hn (by decide) hdf ⟨rfl, by decide, by decide⟩ hY F (fun _ _ a ns hl _ hS => ⟨a, ns, rfl, hS, hl, fun _ => rfl⟩) fun _ _ _ _ _ z => z
end K03

open PySem PySem.W PyProof.Rows in
set_option maxRecDepth 100000 in
set_option maxHeartbeats 0 in
theorem PySem.Challenge.cw_waypairs_k03_houses_refused_holds : PySem.Challenge.rw_waypairs_k03_houses_refused.Holds := by
  w_on; o_law; k_head; (case hw => w_witness2)
  k_fill
  refine K03.walk (l := PySem.Challenge.rw_waypairs_k03_houses_refused) rfl rfl (fun w h Y => PySem.W.kIn_of Y) ?F
  case F =>
    intro w mg fa h KX G hmg
    refine' K03.all_mk KX G hmg ?gc0 ?xl0 ?ini ?xhn ?xht ?xop ?top ?gc1 ?xl1 ?sa1 ?ga1 ?gg1 ?ha1 ?kc1 ?na1_0 ?gc2 ?xl2 ?sa2 ?ga2 ?gg2 ?ha2 ?kc2 ?na2_0 ?gc3 ?xl3 ?sa3 ?ga3 ?gg3 ?ha3 ?kc3 ?na3_0 ?gc4 ?xl4 ?sa4 ?ga4 ?gg4 ?ha4 ?kc4 ?na4_0 ?gc5 ?pg5 ?hd5 ?po5 ?sa5 ?mk5 ?kc5 ?na5_0 ?na5_1 ?na5_2 ?na5_3 ?na5_4 ?xic_Field_0 ?xic_Field_1 ?xic_Field_2 ?xic_Field_3 ?xic_Field_4 ?xic_Field_5 ?xic_Field_6 ?gc6 ?pg6 ?hd6 ?po6 ?sa6 ?mk6 ?kc6 ?na6_0 ?na6_1 ?na6_2 ?na6_3 ?na6_4 ?na6_5 ?na6_6 ?xic_Kind_0 ?xic_Kind_1 ?xic_Kind_2 ?xic_Kind_3 ?xic_Kind_4 ?xic_Kind_5 ?xic_Kind_6 ?xns_Kind_0 ?xns_Kind_1 ?xnf_Kind_0 ?xnf_Kind_1 ?gc7 ?pg7 ?hd7 ?po7 ?sa7 ?mk7 ?kc7 ?na7_0 ?na7_1 ?na7_2 ?na7_3 ?rd7 ?cg7 ?ic7_0 ?ic7_1 ?a0 ?l0 ?c0 ?t0 ?lc0 ?lv0 ?lf0 ?ll0 ?a1 ?l1 ?c1 ?t1 ?lc1 ?lv1 ?lf1 ?ll1 ?a2 ?l2 ?c2 ?t2 ?lc2 ?lv2 ?lf2 ?ll2 ?a3 ?l3 ?c3 ?t3 ?lc3 ?lv3 ?lf3 ?ll3 ?a4 ?l4 ?c4 ?k4 ?a5 ?l5 ?c5 ?k5 ?a6 ?l6 ?c6 ?k6 ?a7 ?l7 ?c7 ?k7 ?a8 ?l8 ?c8 ?k8 ?a9 ?l9 ?c9 ?k9 ?a10 ?l10 ?c10 ?k10 ?a11 ?l11 ?c11 ?k11 ?i11 ?w11_0 ?w11_1 ?w11_2 ?te11 ?a12 ?l12 ?c12 ?k12 ?a13 ?l13 ?c13 ?k13 ?a14 ?l14 ?c14 ?k14 ?i14 ?w14_0 ?w14_1 ?w14_2 ?w14_3 ?w14_4 ?a15 ?l15 ?c15 ?k15 ?a16 ?l16 ?c16 ?k16 ?a17 ?l17 ?c17 ?k17 ?i17 ?a18 ?l18 ?c18 ?k18 ?i18 ?a19 ?l19 ?c19 ?k19 ?i19 ?a20 ?l20 ?c20 ?k20 ?i20 ?a21 ?l21 ?c21 ?k21 ?i21 ?a22 ?l22 ?c22 ?k22 ?i22 ?a23 ?l23 ?c23 ?k23 ?i23 ?a24 ?l24 ?c24 ?k24 ?i24 ?a25 ?l25 ?c25 ?k25 ?i25 ?a26 ?l26 ?c26 ?k26 ?a27 ?l27 ?c27 ?k27 ?a28 ?l28 ?c28 ?k28 ?a29 ?l29 ?c29 ?k29 ?a30 ?l30 ?c30 ?k30 ?a31 ?l31 ?c31 ?k31 ?a32 ?l32 ?c32 ?k32 ?a33 ?l33 ?c33 ?k33 ?a34 ?l34 ?c34 ?k34 ?a35 ?l35 ?c35 ?k35 ?a36 ?l36 ?c36 ?k36 ?a37 ?l37 ?c37 ?k37 ?a38 ?l38 ?c38 ?k38 ?a39 ?l39 ?c39 ?k39 ?a40 ?l40 ?c40 ?k40 ?a41 ?l41 ?c41 ?k41 ?a42 ?l42 ?c42 ?k42 ?a43 ?l43 ?c43 ?k43 ?a44 ?l44 ?c44 ?k44 ?a45 ?l45 ?c45 ?k45 ?a46 ?l46 ?c46 ?k46 ?a47 ?l47 ?c47 ?k47 ?a48 ?l48 ?c48 ?k48 ?a49 ?l49 ?c49 ?k49 ?a50 ?l50 ?c50 ?k50 ?a51 ?l51 ?c51 ?k51 ?a52 ?l52 ?c52 ?k52 ?a53 ?l53 ?c53 ?k53 ?a54 ?l54 ?c54 ?k54 ?a55 ?l55 ?c55 ?k55 ?a56 ?l56 ?c56 ?k56 ?gm0 ?gm1 ?gm2 ?gm3 ?gm4 ?gw4 ?gm5 ?z0 ?z1 ?z2 ?z3 ?z4 ?z5 ?z6 ?z7 ?z8 ?z9 ?z10 ?z11 ?z12 ?z13 ?z14
    (case gc0 => k_is)
    (case xl0 => k_is)
    (case ini => k_is)
    (case xhn => k_is)
    (case xht => k_is)
    (case xop => k_is)
    (case top => first | rfl | decide +kernel)
    (case gc1 => k_is)
    (case xl1 => k_is)
    (case sa1 => k_is)
    (case ga1 => k_is)
    (case gg1 => k_is)
    (case ha1 => k_is)
    (case kc1 => k_is)
    (case na1_0 => k_is)
    (case gc2 => k_is)
    (case xl2 => k_is)
    (case sa2 => k_is)
    (case ga2 => k_is)
    (case gg2 => k_is)
    (case ha2 => k_is)
    (case kc2 => k_is)
    (case na2_0 => k_is)
    (case gc3 => k_is)
    (case xl3 => k_is)
    (case sa3 => k_is)
    (case ga3 => k_is)
    (case gg3 => k_is)
    (case ha3 => k_is)
    (case kc3 => k_is)
    (case na3_0 => k_is)
    (case gc4 => k_is)
    (case xl4 => k_is)
    (case sa4 => k_is)
    (case ga4 => k_is)
    (case gg4 => k_is)
    (case ha4 => k_is)
    (case kc4 => k_is)
    (case na4_0 => k_is)
    (case gc5 => k_is)
    (case pg5 => k_is)
    (case hd5 => k_is)
    (case po5 => k_is)
    (case sa5 => k_is)
    (case mk5 => k_is)
    (case kc5 => k_is)
    (case na5_0 => k_is)
    (case na5_1 => k_is)
    (case na5_2 => k_is)
    (case na5_3 => k_is)
    (case na5_4 => k_is)
    (case xic_Field_0 => k_is)
    (case xic_Field_1 => k_is)
    (case xic_Field_2 => k_is)
    (case xic_Field_3 => k_is)
    (case xic_Field_4 => k_is)
    (case xic_Field_5 => k_is)
    (case xic_Field_6 => k_is)
    (case gc6 => k_is)
    (case pg6 => k_is)
    (case hd6 => k_is)
    (case po6 => k_is)
    (case sa6 => k_is)
    (case mk6 => k_is)
    (case kc6 => k_is)
    (case na6_0 => k_is)
    (case na6_1 => k_is)
    (case na6_2 => k_is)
    (case na6_3 => k_is)
    (case na6_4 => k_is)
    (case na6_5 => k_is)
    (case na6_6 => k_is)
    (case xic_Kind_0 => k_is)
    (case xic_Kind_1 => k_is)
    (case xic_Kind_2 => k_is)
    (case xic_Kind_3 => k_is)
    (case xic_Kind_4 => k_is)
    (case xic_Kind_5 => k_is)
    (case xic_Kind_6 => k_is)
    (case xns_Kind_0 => k_is)
    (case xns_Kind_1 => k_is)
    (case xnf_Kind_0 => k_is)
    (case xnf_Kind_1 => k_is)
    (case gc7 => k_is)
    (case pg7 => k_is)
    (case hd7 => k_is)
    (case po7 => k_is)
    (case sa7 => k_is)
    (case mk7 => k_is)
    (case kc7 => k_is)
    (case na7_0 => k_is)
    (case na7_1 => k_is)
    (case na7_2 => k_is)
    (case na7_3 => k_is)
    (case rd7 => k_is)
    (case cg7 => k_is)
    (case ic7_0 => k_is)
    (case ic7_1 => k_is)
    (case a0 => k_is)
    (case l0 => k_is)
    (case c0 => k_is)
    (case t0 => k_is)
    (case lc0 => k_is)
    (case lv0 => rfl)
    (case lf0 => first | rfl | decide +kernel)
    (case ll0 => k_is)
    (case a1 => k_is)
    (case l1 => k_is)
    (case c1 => k_is)
    (case t1 => k_is)
    (case lc1 => k_is)
    (case lv1 => rfl)
    (case lf1 => first | rfl | decide +kernel)
    (case ll1 => k_is)
    (case a2 => k_is)
    (case l2 => k_is)
    (case c2 => k_is)
    (case t2 => k_is)
    (case lc2 => k_is)
    (case lv2 => rfl)
    (case lf2 => first | rfl | decide +kernel)
    (case ll2 => k_is)
    (case a3 => k_is)
    (case l3 => k_is)
    (case c3 => k_is)
    (case t3 => k_is)
    (case lc3 => k_is)
    (case lv3 => rfl)
    (case lf3 => first | rfl | decide +kernel)
    (case ll3 => k_is)
    (case a4 => k_is)
    (case l4 => k_is)
    (case c4 => k_is)
    (case k4 => k_is)
    (case a5 => k_is)
    (case l5 => k_is)
    (case c5 => k_is)
    (case k5 => k_is)
    (case a6 => k_is)
    (case l6 => k_is)
    (case c6 => k_is)
    (case k6 => k_is)
    (case a7 => k_is)
    (case l7 => k_is)
    (case c7 => k_is)
    (case k7 => k_is)
    (case a8 => k_is)
    (case l8 => k_is)
    (case c8 => k_is)
    (case k8 => k_is)
    (case a9 => k_is)
    (case l9 => k_is)
    (case c9 => k_is)
    (case k9 => k_is)
    (case a10 => k_is)
    (case l10 => k_is)
    (case c10 => k_is)
    (case k10 => k_is)
    (case a11 => k_is)
    (case l11 => k_is)
    (case c11 => k_is)
    (case k11 => k_is)
    (case i11 => k_is)
    (case w11_0 => k_is)
    (case w11_1 => k_is)
    (case w11_2 => k_is)
    (case te11 => k_is)
    (case a12 => k_is)
    (case l12 => k_is)
    (case c12 => k_is)
    (case k12 => k_is)
    (case a13 => k_is)
    (case l13 => k_is)
    (case c13 => k_is)
    (case k13 => k_is)
    (case a14 => k_is)
    (case l14 => k_is)
    (case c14 => k_is)
    (case k14 => k_is)
    (case i14 => k_is)
    (case w14_0 => k_is)
    (case w14_1 => k_is)
    (case w14_2 => k_is)
    (case w14_3 => k_is)
    (case w14_4 => k_is)
    (case a15 => k_is)
    (case l15 => k_is)
    (case c15 => k_is)
    (case k15 => k_is)
    (case a16 => k_is)
    (case l16 => k_is)
    (case c16 => k_is)
    (case k16 => k_is)
    (case a17 => k_is)
    (case l17 => k_is)
    (case c17 => k_is)
    (case k17 => k_is)
    (case i17 => k_is)
    (case a18 => k_is)
    (case l18 => k_is)
    (case c18 => k_is)
    (case k18 => k_is)
    (case i18 => k_is)
    (case a19 => k_is)
    (case l19 => k_is)
    (case c19 => k_is)
    (case k19 => k_is)
    (case i19 => k_is)
    (case a20 => k_is)
    (case l20 => k_is)
    (case c20 => k_is)
    (case k20 => k_is)
    (case i20 => k_is)
    (case a21 => k_is)
    (case l21 => k_is)
    (case c21 => k_is)
    (case k21 => k_is)
    (case i21 => k_is)
    (case a22 => k_is)
    (case l22 => k_is)
    (case c22 => k_is)
    (case k22 => k_is)
    (case i22 => k_is)
    (case a23 => k_is)
    (case l23 => k_is)
    (case c23 => k_is)
    (case k23 => k_is)
    (case i23 => k_is)
    (case a24 => k_is)
    (case l24 => k_is)
    (case c24 => k_is)
    (case k24 => k_is)
    (case i24 => k_is)
    (case a25 => k_is)
    (case l25 => k_is)
    (case c25 => k_is)
    (case k25 => k_is)
    (case i25 => k_is)
    (case a26 => k_is)
    (case l26 => k_is)
    (case c26 => k_is)
    (case k26 => k_is)
    (case a27 => k_is)
    (case l27 => k_is)
    (case c27 => k_is)
    (case k27 => k_is)
    (case a28 => k_is)
    (case l28 => k_is)
    (case c28 => k_is)
    (case k28 => k_is)
    (case a29 => k_is)
    (case l29 => k_is)
    (case c29 => k_is)
    (case k29 => k_is)
    (case a30 => k_is)
    (case l30 => k_is)
    (case c30 => k_is)
    (case k30 => k_is)
    (case a31 => k_is)
    (case l31 => k_is)
    (case c31 => k_is)
    (case k31 => k_is)
    (case a32 => k_is)
    (case l32 => k_is)
    (case c32 => k_is)
    (case k32 => k_is)
    (case a33 => k_is)
    (case l33 => k_is)
    (case c33 => k_is)
    (case k33 => k_is)
    (case a34 => k_is)
    (case l34 => k_is)
    (case c34 => k_is)
    (case k34 => k_is)
    (case a35 => k_is)
    (case l35 => k_is)
    (case c35 => k_is)
    (case k35 => k_is)
    (case a36 => k_is)
    (case l36 => k_is)
    (case c36 => k_is)
    (case k36 => k_is)
    (case a37 => k_is)
    (case l37 => k_is)
    (case c37 => k_is)
    (case k37 => k_is)
    (case a38 => k_is)
    (case l38 => k_is)
    (case c38 => k_is)
    (case k38 => k_is)
    (case a39 => k_is)
    (case l39 => k_is)
    (case c39 => k_is)
    (case k39 => k_is)
    (case a40 => k_is)
    (case l40 => k_is)
    (case c40 => k_is)
    (case k40 => k_is)
    (case a41 => k_is)
    (case l41 => k_is)
    (case c41 => k_is)
    (case k41 => k_is)
    (case a42 => k_is)
    (case l42 => k_is)
    (case c42 => k_is)
    (case k42 => k_is)
    (case a43 => k_is)
    (case l43 => k_is)
    (case c43 => k_is)
    (case k43 => k_is)
    (case a44 => k_is)
    (case l44 => k_is)
    (case c44 => k_is)
    (case k44 => k_is)
    (case a45 => k_is)
    (case l45 => k_is)
    (case c45 => k_is)
    (case k45 => k_is)
    (case a46 => k_is)
    (case l46 => k_is)
    (case c46 => k_is)
    (case k46 => k_is)
    (case a47 => k_is)
    (case l47 => k_is)
    (case c47 => k_is)
    (case k47 => k_is)
    (case a48 => k_is)
    (case l48 => k_is)
    (case c48 => k_is)
    (case k48 => k_is)
    (case a49 => k_is)
    (case l49 => k_is)
    (case c49 => k_is)
    (case k49 => k_is)
    (case a50 => k_is)
    (case l50 => k_is)
    (case c50 => k_is)
    (case k50 => k_is)
    (case a51 => k_is)
    (case l51 => k_is)
    (case c51 => k_is)
    (case k51 => k_is)
    (case a52 => k_is)
    (case l52 => k_is)
    (case c52 => k_is)
    (case k52 => k_is)
    (case a53 => k_is)
    (case l53 => k_is)
    (case c53 => k_is)
    (case k53 => k_is)
    (case a54 => k_is)
    (case l54 => k_is)
    (case c54 => k_is)
    (case k54 => k_is)
    (case a55 => k_is)
    (case l55 => k_is)
    (case c55 => k_is)
    (case k55 => k_is)
    (case a56 => k_is)
    (case l56 => k_is)
    (case c56 => k_is)
    (case k56 => k_is)
    (case gm0 => k_is)
    (case gm1 => k_is)
    (case gm2 => k_is)
    (case gm3 => k_is)
    (case gm4 => k_is)
    (case gw4 => k_is)
    (case gm5 => k_is)
    (case z0 => k_is)
    (case z1 => k_is)
    (case z2 => k_is)
    (case z3 => k_is)
    (case z4 => k_is)
    (case z5 => k_is)
    (case z6 => k_is)
    (case z7 => k_is)
    (case z8 => k_is)
    (case z9 => k_is)
    (case z10 => k_is)
    (case z11 => k_is)
    (case z12 => k_is)
    (case z13 => k_is)
    (case z14 => k_is)
#print axioms PySem.Challenge.cw_waypairs_k03_houses_refused_holds
