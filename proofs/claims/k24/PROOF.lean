import PyProof.Rows.All
import Wide.All
import OpenK.AllK
import Wide.FinOn
import HandS.ForMost
import HandS.Zip
import HandS.Walk
import HandS.IsInst
import HandS.Evl
import HandS.Defaults
import HandS.Style
import KE.GoesEnum
import HandS.OwnEq
import HandS.More
import PyProof.ReprRoads
import PyProof.DictRoadsH
import PyProof.TupleKey
import PyProof.P3Eq
import HandS.DictTup
import HandS.TupLen
import HandS.ListItems
import HandS.NoneIn
import PyProof.ReprLen
import PyProof.CallFns
import HandS.Words
import HandS.Small
import HandS.MakeKw
import HandS.MakeKwOnly
import HandS.TryOnly
import PySem.Challenge.RW_waypairs_k24_memos
set_option Elab.async false
set_option linter.all false
set_option maxRecDepth 100000
set_option maxHeartbeats 4000000
/-! enumerate over a tuple -/
namespace Way
open PySem PySem.Spec PyProof.Rows L2
set_option maxHeartbeats 1000000 in
theorem meets_enumerate_newT {v : Value} {o : Obj} {H : Heap → Prop} (B : Begins v o H) :
    Meets (Builtin.«enumerate.__new__» ⟨[.type "enumerate", v], []⟩) (fun _ R s => H s.heap ∧
      R (.ok (.ret (.ref (s.heap.push o).objs.size))) { s with heap := (s.heap.push o).push { cls := .type "enumerate", data := .fields #[.none, .bool false, .ref s.heap.objs.size, rawInt 0, .none, .none] } }) :=
  .of_wp fun prog w A R s h => by
    obtain ⟨hp, g, d, tk, os⟩ := s; obtain ⟨h1, h⟩ := h
    have hsub := sub_enumerate
    have q1 : ∀ {A' : Around} {E : Value → Shared → Prop} {Q : Value → Shared → Prop}, Q (.ref hp.objs.size) ⟨hp.push o, g, d, tk, os⟩ → wpAny (model prog w) A' (pyIter v) Q E ⟨hp, g, d, tk, os⟩ :=
      fun q => B.iter prog w _ _ ⟨hp, g, d, tk, os⟩ _ h1 q
    wp_walk using q1
    refine wpAny_stack_any fun st => wpAny_pure ?_
    split
    · rename_i c _ _ _ _ _
      cases (c == Value.type "enumerate")
      · wp_walk using q1
        exact ⟨_, rfl, h⟩
      · wp_walk using q1
        exact ⟨_, rfl, h⟩
    · wp_walk using q1
      exact ⟨_, rfl, h⟩
theorem enum_beginsT {prog : Program} {w : World} {A : Around} {E : Value → Shared → Prop} {s : Shared} {v : Value} {o : Obj} {H : Heap → Prop} {Q : Value → Shared → Prop} (B : Begins v o H) (h1 : H s.heap)
    (h : ∀ h', IsEnum h' (s.heap.objs.size + 1) s.heap.objs.size 0 .none → h'.get? s.heap.objs.size = some o → h'.objs.size = s.heap.objs.size + 2 →
      (∀ b o, s.heap.get? b = some o → h'.get? b = some o) → Q (.ref (s.heap.objs.size + 1)) { s with heap := h' }) :
    wpAny (model prog w) A (call (.type "enumerate") [v]) Q E s := by
  refine callType_new F.called_enumerate (by decide) (F.typeCall_enumerate_1 _) (F.newCall_enumerate_1 _) (fun obj => F.args_object_init_2 obj _) F.entry_enumerate_new
    (meets_enumerate_newT B) ⟨h1, ?_⟩
  have hz : (s.heap.push o).objs.size = s.heap.objs.size + 1 := Heap.size_push ..
  show _ ∧ _
  rw [hz]
  have he : IsEnum ((s.heap.push o).push { cls := .type "enumerate", data := .fields #[.none, .bool false, .ref s.heap.objs.size, rawInt 0, .none, .none] }) (s.heap.objs.size + 1) s.heap.objs.size 0 .none := by
    have := Heap.get?_push_size (s.heap.push o) (o := { cls := .type "enumerate", data := .fields #[.none, .bool false, .ref s.heap.objs.size, rawInt 0, .none, .none] }) rfl
    rw [hz] at this; exact this
  refine ⟨⟨_, he, rfl⟩, h _ he (Heap.get?_push_of_some _ (Heap.get?_push_size _ B.free)) (by rw [Heap.size_push, hz]) fun b o x => Heap.get?_push_of_some _ (Heap.get?_push_of_some _ x)⟩

/-- the tuple at a, each item in a new pair with its number -/
def IteT (K : PySem.W.Frag) (a : Addr) : It :=
  ⟨fun i H => ∃ (xs : List V) (x : V), SqT K H a xs ∧ xs[i]? = some x, fun i H v H' => ∃ T x, v = .ref T ∧ H T = none ∧ H' = upd H T (.tup [.int (i : Nat), x]) ∧ ∀ xs, SqT K H a xs → xs[i]? = some x, fun i H => ∃ xs : List V, SqT K H a xs ∧ xs.length ≤ i⟩
theorem apart_tupIter {h : Heap} {a it : Addr} {i : Nat} {its : Array Value} (ht : h.IsTuple a its) (hi : h.IsTupleIter it a i) : a ≠ it := by
  rintro rfl
  obtain ⟨o, ho, hc, _⟩ := ht
  obtain ⟨o', ho', hc', _⟩ := hi
  rw [ho] at ho'
  cases ho'
  rw [hc] at hc'
  exact absurd hc' (by decide)
theorem turn_enumT {P : Program} {w : World} {K : PySem.W.Frag} {elts : List Expr} {kk : Nat} {tpos : Pos} (a e it : Addr) :
    Turn P w K (.Tuple elts kk tpos) (IteT K a) [e, it] e (fun i h => (∃ old, IsEnum h e it ((i : Nat) : Int) old) ∧ h.IsTupleIter it a i ∧ e ≠ it) where
  mem := by simp
  obj := fun i h st b hb => by
    obtain ⟨⟨old, he⟩, ⟨o, ho, hc, hd⟩, _⟩ := st
    have e' : b = e ∨ b = it := by simpa using hb
    rcases e' with z | z
    · rw [z]; exact ⟨_, he, fun v q => nomatch q⟩
    · rw [z]; exact ⟨o, ho, fun v q => by rw [hd] at q; cases q⟩
  keep := fun i h h' st k => let ⟨⟨old, he⟩, hi, hne⟩ := st; ⟨⟨old, k e (by simp) _ he⟩, hi.at fun o q => k it (by simp) o q, hne⟩
  item := by
    intro X hP hw hK hc i pins s σ H E I hf st hg
    subst hP hw hK
    obtain ⟨⟨old, he⟩, hit, hne⟩ := st
    obtain ⟨xs, x, hq, hx⟩ := hg
    obtain ⟨its, rv, p, hz⟩ := I.tuple hq
    have p' : s.heap.IsTuple a its.toArray := p
    obtain ⟨u, hu, ru⟩ := rv.get hx
    have hai := apart_tupIter p' hit
    have hae : a ≠ e := by
      rintro rfl
      obtain ⟨o, ho, hc', _⟩ := p'
      rw [he] at ho
      cases ho
      exact absurd (show Value.type "enumerate" = Value.type "tuple" from hc') (by decide)
    have hel : e < s.heap.objs.size := Heap.lt_size he
    have hil : it < s.heap.objs.size := by obtain ⟨_, q, _⟩ := hit; exact Heap.lt_size q
    have hi : i < its.toArray.size := by
      have q := (List.getElem?_eq_some_iff.mp hu).1
      simpa using q
    refine wpAny_pyNext_enum_itemD (Draws.tuple (A := X.A.in1) (I.ok.hd hc) it a hai its.toArray) he ⟨hit, p'⟩ hi hne (by simp; exact ⟨hne, hae.symm⟩) fun y h' tk hP ho hs' hT hsz hk => ?_
    obtain ⟨hit', _⟩ := hs'
    have ey : y = u := by
      have hP' : its.toArray[i]? = some y := hP
      have hu' : its.toArray[i]? = some u := by simpa using hu
      rw [hu'] at hP'
      exact (Option.some.inj hP').symm
    subst ey
    refine ⟨_, rfl, wpAny_letOwnedTupleGo_enum (s := { s with heap := h', toks := tk + 1 }) ho fun h'' he' sb => ?_⟩
    have hT2 : h''.get? s.heap.objs.size = some { cls := .type "tuple", data := .seq #[.int i tk, y] } := (sb.2 _ (Nat.ne_of_gt hel)).trans hT
    have new : ObjOk X.prog X.w (upd H s.heap.objs.size (.tup [.int (i : Nat), x])) h'' s.heap.objs.size (.tup [.int (i : Nat), x]) :=
      ⟨by show 2 ≤ sizeLine; decide, [.int i tk, y], .cons ⟨_, rfl⟩ (.cons ru .nil), ⟨_, hT2, rfl, _, rfl⟩⟩
    have I1 : Inv X pins σ (upd H s.heap.objs.size (.tup [.int (i : Nat), x])) { s with heap := h'', toks := tk + 1 } :=
      I.turnedNew (ch := [e, it]) (fun b ob hb q => (sb.2 b (fun z => hb (by simp [z]))).trans (hk b ob (fun z => hb (by simp [z])) (fun z => hb (by simp [z])) q)) hf (Nat.le_refl _) new
    refine ⟨.ref s.heap.objs.size, _, I1, rfl, ⟨_, x, rfl, I.hok.fresh (Nat.le_refl _), rfl, fun ys hy => by rw [I.tuple_inj hy hq]; exact hx⟩, ⟨⟨y, ?_⟩, hit'.at fun o q => (sb.2 it (Ne.symm hne)).trans q, hne⟩, fun b hb => ?_⟩
    · have e1 : ((i + 1 : Nat) : Int) = (i : Int) + 1 := by omega
      rw [e1]; exact he'
    · have hb' : b < s.heap.objs.size := by
        have e' : b = e ∨ b = it := by simpa using hb
        rcases e' with z | z
        · rw [z]; exact hel
        · rw [z]; exact hil
      rw [upd_ne (Nat.ne_of_lt hb')]
      exact (hf b hb).1
  done := by
    intro X hP hw hK hc i pins s σ H E I hf st hg
    subst hP hw hK
    obtain ⟨⟨old, he⟩, hit, hne⟩ := st
    obtain ⟨xs, hq, hx⟩ := hg
    obtain ⟨its, rv, p, hz⟩ := I.tuple hq
    have p' : s.heap.IsTuple a its.toArray := p
    obtain ⟨f0, f1, f2, f3, f4, f5⟩ := hf it (by simp)
    have hl := rv.length
    have hT : s.TypeIs (.ref e) "enumerate" := ⟨_, he, rfl⟩
    unfold pyNext
    refine wpAny_bind (wpAny_attempt (wpAny_callSpecial?_slot (name := Str.ofString "__next__") hT F.slot_enumerate_next
      (wpAny_call_entry F.slot_enumerate_next hT F.entry_enumerate_next ?_ (F.args_enumerate_next_1 _))))
    show wpAny _ _ (field (.ref e) 2 >>= _) _ _ _
    refine wpAny_bind (wpAny_field he rfl (x := .ref it) rfl ?_)
    refine wpAny_bind (RZ.nextOf_tuple_end (I.ok.hd hc) hit p' (by simp; omega) fun h' x he' hx' => ?_)
    obtain ⟨o, ho, hc⟩ := hx'
    refine wpAny_bind (wpAny_isInstance (T := "StopIteration") (b := true) ⟨o, ho, hc⟩ isSubtype_stop ?_)
    exact wpAny_pure ⟨rfl, I.turned (t' := s.toks) (fun b o hb q => he' b o hb q) f0 f1 f3 f4 f5⟩
  self := fun A i s Q E st h => let ⟨⟨_, he⟩, _⟩ := st; wpAny_pyIter_enum he h
def iEnumT (K : PySem.W.Frag) (ta : TA) : TI := fun σ H R => ta σ H fun vs H1 => ∃ a xs, vs = [.ref a] ∧ SqT K H1 a xs ∧ R (IteT K a) H1
theorem pi_enumT {X : Cx} {e : Expr} {ta : TA} {p pos tpos : Pos} {elts : List Expr} {kk : Nat} (hg : Gl X "enumerate") (hm : X.mg "enumerate" = none) (ha : PA X [e] ta) (hs : starEach [e] X.env = [(false, eval e X.env)] := by rfl) :
    PI X (.Tuple elts kk tpos) (.Call (.Name "enumerate" p) [e] [] pos) (iEnumT X.K ta) := by
  refine ⟨fun pins s σ H R I h => ?_⟩
  refine Call_ (ld_blt I hg hm boot_enumerate (PyProof.Rows.callWith_type1 (thn (ha.run pos pins s σ H _ I h) fun us s1 ⟨vs, H1, I1, r1, q1⟩ => ?_) hs rfl))
  obtain ⟨a, xs, ex, hq, q⟩ := q1
  subst ex
  cases r1 with
  | cons r rr =>
    cases rr
    cases r
    obtain ⟨its, rv, p', hz⟩ := I1.tuple hq
    have p'' : s1.heap.IsTuple a its.toArray := p'
    refine enum_beginsT (begins_tuple a its.toArray) p'' fun h' he hit hsz hk => wpAny_pyIter_enum he ?_
    have I2 : Inv X pins σ H1 { s1 with heap := h' } := I1.kept (t' := s1.toks) hk
    refine ⟨s1.heap.objs.size + 1, [s1.heap.objs.size + 1, s1.heap.objs.size], _, _, H1, rfl, I2, turn_enumT a (s1.heap.objs.size + 1) s1.heap.objs.size, ⟨⟨.none, he⟩, ⟨_, hit, rfl, rfl⟩, Nat.succ_ne_self _⟩, fun b hb => ?_, q⟩
    have e' : b = s1.heap.objs.size + 1 ∨ b = s1.heap.objs.size := by simpa using hb
    have hle : s1.heap.objs.size ≤ b := by
      rcases e' with z | z
      · rw [z]; exact Nat.le_add_right _ _
      · rw [z]; exact Nat.le_refl _
    exact I1.fpOk hle (I1.hok.fresh hle)
theorem walk_enumT {K : PySem.W.Frag} {a : Addr} {xs : List V} : Walk (IteT K a) xs.length (fun H => SqT K H a xs) (YPair (fun i => some (.int (i : Nat))) (fun i => xs[i]?)) := by
  refine ⟨fun i _ hi q => ⟨xs, xs[i], q, by simp [hi]⟩, fun _ q => ⟨xs, q, Nat.le_refl _⟩, fun i H v H' _ q y => ?_⟩
  obtain ⟨T, x, h1, h2, h3, h4⟩ := y
  exact ⟨T, .int (i : Nat), x, h1, h2, h3, rfl, h4 xs q⟩

/-! f(k = v, ..): keywords alone -/
section
variable {X : Cx} {CX : CXT} {k : Nat} {f : Addr} {fd : FuncData} {ps ks : List Str} {sp : Sp} {x : Str} {kws : List Keyword} {tk : TA} {E : XK} {p pos : Pos} {g : List Value → List Value → List Value} {gV : List V → List V → List V}
theorem pe_callK0 (F : FnOk X.prog X.w X.K X.mg X.base CX k f fd ps sp) (hr : Room k X.A) (hg : Gl X x) (hm : X.mg x = some (.ref f)) (hk : PySem.W.keepIn X.K (.ref f) = true) (hb : KBinds X.K fd ps ks g gV) (hx : Passes CX X E)
    (hkw : PK X kws tk) (hall : (backToKw pos (keywordEach kws X.env)).all (·.1.isSome) = true := by rfl) (hks : (backToKw pos (keywordEach kws X.env)).filterMap (·.1) = ks := by rfl)
    (hdb : (x == ("__debug__" : Str)) = false := by decide)
    (hpl : ((backTo pos (starEach [] X.env)).any (·.1) || (backToKw pos (keywordEach kws X.env)).any (·.1.isNone)) = false := by rfl) :
    PE X (.Call (.Name x p) [] kws pos) (tCallK sp gV E tNil tk) := by
  refine ⟨fun pins s σ H Q I h => ?_⟩
  refine wpAny_Call_Name_kw (ld_glob I hg hm ?_ hdb)
  refine PySem.W.callWith_KW0 (h₀ := X.base) I.ok.mod.kin hk hall ?_ hpl
  refine thn (hkw.run pos pins s σ H _ I h) fun ws s2 ⟨zs, H2, I2, rz, q2⟩ => ⟨I2.kIn, ?_⟩
  rw [hks]
  exact run_fnk (us := []) (vs := []) F hr hb hx I2 .nil rz q2
end

/-! heaps -/
theorem Same.new {H H' : Hp} {p : Addr} {o : HO} (s : Same H H') (h : H p = none) : Same H (upd H' p o) := fun b u e => by
  rw [upd_ne (ne_of_none e h)]
  exact s b u e
theorem Same.new' {H H' : Hp} {p : Addr} {o : HO} (s : Same H H') (h : H' p = none) : Same H (upd H' p o) := Same.new s (s.free h)
theorem Same.tup {K : PySem.W.Frag} {H H' : Hp} {a : Addr} {xs : List V} (e : Same H H') (h : SqT K H a xs) : SqT K H' a xs := by
  rcases h with (h | ⟨o, h⟩) | h
  · exact .inl (.inl (e _ _ h))
  · exact .inl (.inr ⟨o, e _ _ h⟩)
  · exact .inr h
/-- all but the object at s is as it was -/
def Kp (s : Addr) (H H' : Hp) : Prop := ∀ b o, b ≠ s → H b = some o → H' b = some o
theorem Kp.refl (s : Addr) (H : Hp) : Kp s H H := fun _ _ _ h => h
theorem Kp.trans {s : Addr} {H H1 H2 : Hp} (a : Kp s H H1) (b : Kp s H1 H2) : Kp s H H2 := fun c o n h => b c o n (a c o n h)
theorem Kp.of {s : Addr} {H H' : Hp} (a : Same H H') : Kp s H H' := fun c o _ h => a c o h
theorem Kp.set {s : Addr} {H H' : Hp} {o : HO} (a : Kp s H H') : Kp s H (upd H' s o) := fun c u n h => by rw [upd_ne n]; exact a c u n h
theorem Kp.new {s p : Addr} {H H' : Hp} {o : HO} (a : Kp s H H') (n : H p = none) : Kp s H (upd H' p o) := fun c u nc h => by
  rw [upd_ne (ne_of_none h n)]; exact a c u nc h
theorem Kp.free {s p : Addr} {H H' : Hp} (a : Kp s H H') (ns : p ≠ s) (n : H' p = none) : H p = none := by
  cases q : H p with
  | none => rfl
  | some o => rw [a p o ns q] at n; cases n
theorem flat_ints (l : List Int) : (l.map V.int).all flatV = true := by
  induction l with
  | nil => rfl
  | cons a r ih => rw [List.map_cons, List.all_cons, ih]; rfl
theorem flat_strs (l : List Str) : (l.map V.str).all flatV = true := by
  induction l with
  | nil => rfl
  | cons a r ih => rw [List.map_cons, List.all_cons, ih]; rfl
theorem inV_ints (i : Int) (l : List Int) : inV (.int i) (l.map V.int) = l.contains i := by
  induction l with
  | nil => rfl
  | cons a r ih =>
    unfold inV at ih
    unfold inV
    rw [List.map_cons, List.any_cons, ih, List.contains_cons]
    congr 1
    show decide (a = i) = (i == a)
    by_cases h : a = i
    · subst h; simp
    · rw [decide_eq_false h]
      exact (beq_eq_false_iff_ne.mpr (fun q => h q.symm)).symm
/-! evaluation without effect -/
section
open Evl
variable {K : PySem.W.Frag} {H : Hp} {σ : L2.St} {t : TT} {te tl : TE}
theorem el_lcT {a : Addr} {xs : List V} {j : Nat} {vs : List Nat} (f : Nat → Bool) (v : Nat → V) (h : Ev tl σ H (.ref a)) (hx : SqT K H a xs) (hz : xs.length ≤ 40000) (hw : ∀ x, wipe ((wipe σ vs).set j (some x)) vs = wipe σ vs)
    (ht : ∀ (i : Nat) (x : V) H1, Ex H H1 → xs[i]? = some x → EvT t ((wipe σ vs).set j (some x)) H1 (f i)) (he : ∀ (i : Nat) (x : V) H1, Ex H H1 → xs[i]? = some x → f i = true → Ev te ((wipe σ vs).set j (some x)) H1 (v i)) :
    EvL (tLc (iTup K tl) (gName j) t te vs) σ H (given xs.length f v) := fun H0 e Q q => h H0 e _ fun H1 e1 => ⟨a, rfl, ⟨xs, ex_t (e.trans e1) hx⟩, fun Dl hD =>
  lc_tup (xs := xs) (Cw H1 f v Dl) ⟨hD, Ex.new hD, upd_same⟩ (fun i H' _ p => ex_t ((e.trans e1).trans p.2.1) hx) (fun i x H' hi p => ⟨hw x, cw_turn p (by have := (List.getElem?_eq_some_iff.mp hi).1; omega) (ht i x H1 (e.trans e1) hi) (fun hf => he i x H1 (e.trans e1) hi hf)⟩)
    (fun H' p => q Dl H' (fresh_back e1 p.1) (e1.trans p.2.1) p.2.2)⟩
theorem rv_isN {x : V} : RV (fun x y H Q => y = V.non ∧ Q (.bl (decide (x = V.non))) H) x .non H (.bl (decide (x = .non))) := fun H1 _ _ q => ⟨rfl, q H1 (Ex.refl H1)⟩
theorem rv_notN {x : V} : RV (fun x y H Q => y = V.non ∧ Q (.bl (!decide (x = V.non))) H) x .non H (.bl (!decide (x = .non))) := fun H1 _ _ q => ⟨rfl, q H1 (Ex.refl H1)⟩
theorem rc_isi {x c : V} {t u : Value} {b : Bool} (k : ClsV c u) (ty : ∀ H1, Ex H H1 → TyX K H1 x t) (e : PySem.W.kitOne K t u = some b) : RC (rIsi K) [x, c] H (.bl b) := fun H1 e1 _ q => ⟨x, c, t, u, b, rfl, k, ty H1 e1, e, q H1 (Ex.refl H1)⟩
theorem ty_tup {a : Addr} {xs : List V} (h : H a = some (.tup xs)) : ∀ H1, Ex H H1 → TyX K H1 (.ref a) (.type "tuple") := fun H1 e => .base (.tup (e _ _ h))
theorem ty_lst {a : Addr} {xs : List V} (h : H a = some (.lst xs)) : ∀ H1, Ex H H1 → TyX K H1 (.ref a) (.type "list") := fun H1 e => .base (.lst (e _ _ h))
theorem ty_bl {b : Bool} : ∀ H1, Ex H H1 → TyX K H1 (.bl b) (.type "bool") := fun H1 e => .base (.bl b)
theorem ty_int {i : Int} : ∀ H1, Ex H H1 → TyX K H1 (.int i) (.type "int") := fun H1 e => .base (.int i)
theorem ty_str {x : Str} : ∀ H1, Ex H H1 → TyX K H1 (.str x) (.type "str") := fun H1 e => .base (.str x)
theorem ty_non : ∀ H1, Ex H H1 → TyX K H1 .non (.type "NoneType") := fun H1 e => .base .non
theorem rc_lenL {p : Addr} {xs : List V} (h : SqL K H p xs) : RC (fun xs H Q => ∃ p ys, xs = [V.ref p] ∧ (SqL K H p ys ∨ SqT K H p ys) ∧ Q (.int ys.length) H) [.ref p] H (.int (xs.length : Int)) := fun H1 e _ q => ⟨p, xs, rfl, .inl (ex_l e h), q H1 (Ex.refl H1)⟩
theorem rc_lenT {p : Addr} {xs : List V} (h : SqT K H p xs) : RC (fun xs H Q => ∃ p ys, xs = [V.ref p] ∧ (SqL K H p ys ∨ SqT K H p ys) ∧ Q (.int ys.length) H) [.ref p] H (.int (xs.length : Int)) := fun H1 e _ q => ⟨p, xs, rfl, .inr (ex_t e h), q H1 (Ex.refl H1)⟩
theorem rv_eqD {x y : V} {d e : PyData} (h1 : ∀ H1, Ex H H1 → Dp K H1 x d) (h2 : ∀ H1, Ex H H1 → Dp K H1 y e) (s1 : SeqAt.shaped d = true) (s2 : SeqAt.shaped e = true) : RV (rEqD K) x y H (.bl (PyData.eqv d e)) :=
  fun H1 e1 _ q => ⟨d, e, h1 H1 e1, h2 H1 e1, s1, s2, q H1 (Ex.refl H1)⟩
theorem rv_neD {x y : V} {d e : PyData} (h1 : ∀ H1, Ex H H1 → Dp K H1 x d) (h2 : ∀ H1, Ex H H1 → Dp K H1 y e) (s1 : SeqAt.shaped d = true) (s2 : SeqAt.shaped e = true) : RV (rNeD K) x y H (.bl (!PyData.eqv d e)) :=
  fun H1 e1 _ q => ⟨d, e, h1 H1 e1, h2 H1 e1, s1, s2, q H1 (Ex.refl H1)⟩
theorem dp_bls : ∀ l : List Bool, DpAll K H (l.map V.bl) (l.map PyData.bool)
  | [] => .nil
  | b :: r => .cons (.bl b) (dp_bls r)
theorem dp_ints : ∀ l : List Int, DpAll K H (l.map V.int) (l.map PyData.int)
  | [] => .nil
  | b :: r => .cons (.int b) (dp_ints r)
theorem dp_strs : ∀ l : List Str, DpAll K H (l.map V.str) (l.map PyData.str)
  | [] => .nil
  | b :: r => .cons (.str b) (dp_strs r)
theorem dp_tupB {a : Addr} {l : List Bool} (h : H a = some (.tup (l.map V.bl))) : ∀ H1, Ex H H1 → Dp K H1 (.ref a) (.tuple (l.map PyData.bool)) := fun H1 e => .tup (SqT.of (e _ _ h)) (dp_bls l)
theorem dp_nil {a : Addr} (h : H a = some (.lst [])) : ∀ H1, Ex H H1 → Dp K H1 (.ref a) (.list []) := fun H1 e => .lst (SqL.of (e _ _ h)) .nil
end
/-! shapes of data -/
def Shp (n : Nat) (d : PyData) : Prop := d.canLay0 = true ∧ d.depth ≤ n
theorem shp_all {n : Nat} : ∀ {ds : List PyData}, (∀ d ∈ ds, Shp n d) → PyData.canLayAll0 ds = true ∧ PyData.depthAll ds ≤ n
  | [], _ => ⟨rfl, Nat.zero_le _⟩
  | d :: r, h => by
    obtain ⟨h1, h2⟩ := shp_all (ds := r) fun x hx => h x (List.mem_cons_of_mem _ hx)
    obtain ⟨g1, g2⟩ := h d (List.mem_cons_self ..)
    refine ⟨by simp only [PyData.canLayAll0, g1, h1, Bool.and_self], ?_⟩
    simp only [PyData.depthAll]
    omega
theorem shp_tup {n : Nat} {ds : List PyData} (h : ∀ d ∈ ds, Shp n d) : Shp (n + 1) (.tuple ds) := by
  obtain ⟨h1, h2⟩ := shp_all h
  exact ⟨by simpa only [PyData.canLay0] using h1, by simp only [PyData.depth]; omega⟩
theorem shp_lst {n : Nat} {ds : List PyData} (h : ∀ d ∈ ds, Shp n d) : Shp (n + 1) (.list ds) := by
  obtain ⟨h1, h2⟩ := shp_all h
  exact ⟨by simpa only [PyData.canLay0] using h1, by simp only [PyData.depth]; omega⟩
theorem shp_bl {n : Nat} {b : Bool} : Shp n (.bool b) := ⟨by simp only [PyData.canLay0], by simp only [PyData.depth]; omega⟩
theorem shp_int {n : Nat} {b : Int} : Shp n (.int b) := ⟨by simp only [PyData.canLay0], by simp only [PyData.depth]; omega⟩
theorem shp_non {n : Nat} : Shp n .none := ⟨by simp only [PyData.canLay0], by simp only [PyData.depth]; omega⟩
theorem Shp.ok {n : Nat} {d : PyData} (h : Shp n d) (hn : n ≤ 64 := by decide) : SeqAt.shaped d = true := by
  unfold SeqAt.shaped
  rw [h.1, decide_eq_true (Nat.le_trans h.2 hn)]
  rfl
theorem Shp.same {n : Nat} {d : PyData} (h : Shp n d) : PyData.eqv d d = true := SeqAt.eqv_refl d h.1
theorem shp_bls (l : List Bool) : Shp 1 (.tuple (l.map PyData.bool)) := shp_tup fun d hd => by
  obtain ⟨b, _, rfl⟩ := List.mem_map.mp hd
  exact shp_bl
/-! the rules with K apart (for blocks of comprehensions) -/
section
variable {X : Cx}
theorem kk_isi {K : PySem.W.Frag} (h : X.K = K := by rfl) : CallR X (.builtin "isinstance") (rIsi K) := h ▸ call_isi
theorem kk_in {K : PySem.W.Frag} (h : X.K = K := by rfl) : OpR X (compareOp .In) (rIn K false) := h ▸ op_in_seq
theorem kk_notin {K : PySem.W.Frag} (h : X.K = K := by rfl) : OpR X (compareOp .NotIn) (rIn K true) := h ▸ op_notIn_seq
theorem kk_ixL {K : PySem.W.Frag} (h : X.K = K := by rfl) : IxR X (rIxL K) := h ▸ ix_list
theorem kk_ixT {K : PySem.W.Frag} (h : X.K = K := by rfl) : IxR X (rIxT K) := h ▸ ix_tup
theorem kk_eqD {K : PySem.W.Frag} (hu : X.A.units + 64 < cLine) (h : X.K = K := by rfl) : OpR X (compareOp .Eq) (rEqD K) := h ▸ op_eqD hu
theorem kk_neD {K : PySem.W.Frag} (hu : X.A.units + 64 < cLine) (h : X.K = K := by rfl) : OpR X (compareOp .NotEq) (rNeD K) := h ▸ op_neD hu
end
/-! keyword-only defaults alone, some of them written -/
theorem kbinds0 {K : PySem.W.Frag} {x qual : Str} {params : Arguments} {body : List Stmt} {scope : Scope} {kws : List (Str × V)} {f : Addr} {fd : FuncData} {ps : List Str} (F : FunD K x qual params body scope [] kws f fd) (n : Nat) (ks : List Str) (ms : List (Str × V)) (g : {α : Type} → List α → List α → List α → List α) (hk : kws ≠ []) (hms : ∀ q ∈ ms, q ∈ kws)
    (hrel : ∀ {vs mz zs : List V} {us mv ws : List Value}, Vals vs us → Vals mz mv → Vals zs ws → Vals (g vs mz zs) (g us mv ws))
    (h : ∀ (D : Addr) (doc pm : Value) (an : Option Addr) (cdv ct : Value) (us mv ws : List Value), us.length = n → mv.length = ms.length → ws.length = ks.length →
      KwChain D ((ms.map (·.1)).zip mv) (bindArgs (PySem.W.fnOf x qual params body scope .none (.ref D) doc pm an cdv ct) ⟨us, ks.zip ws⟩) (ps.zip (g us mv ws))) :
    ∃ mv : List Value, KBn K fd ps n ks (fun us ws => g us mv ws) (fun vs zs => g vs (ms.map (·.2)) zs) := by
  obtain ⟨oc, od, dV, kV, doc, pm, an, cdv, ct, osl, rfl, lk, hcd, hD, hK⟩ := F.ex
  rcases hD with ⟨_, rfl⟩ | ⟨e, _⟩
  · rcases hK with e | ⟨D, rfl, hq⟩
    · exact absurd e hk
    · obtain ⟨mv, hl, rk, hks⟩ := kwd_vals (ms := ms) fun q hm => hq q (hms q hm)
      refine ⟨mv, ⟨fun s us ws X l1 l2 => ?_, fun r1 r2 => hrel r1 rk r2⟩⟩
      exact BindsTo.of_looks fun M => KwChain.looks X hks (h D doc pm an cdv ct us mv ws l1 hl l2)
  · exact absurd rfl e
theorem okD {P : Program} {w : World} {K : PySem.W.Frag} {mg : Str → Option Value} {base : Heap} {x qual : Str} {params : Arguments} {body : List Stmt} {scope : Scope} {dvs : List V} {kws : List (Str × V)} {f : Addr} {fd : FuncData} {N ps : List Str} {k : Nat} {sp : Sp} (F : FunD K x qual params body scope dvs kws f fd) (S : FnScope N ps scope) (len : ∀ vs H Q E, sp vs H Q E → vs.length = ps.length)
    (hbody : ∀ (cdv : Value) (A : Around) (outer : List Env) (s : Shared) (H : Hp) (vs : List V) (Q : VK) (E : XK), Room k (A.deeper (envOfC qual scope s.heap.objs.size f cdv)) → sp vs H Q E →
      ∃ t, PSs (cxOf CX0 P w K mg base N qual scope f cdv A outer s H E).nox body t ∧ t { nx := fun _ H' => Q .non H', rt := Q } (start N vs) H) : FnOk P w K mg base CX0 (k + 1) f fd ps sp :=
  F.ok S len fun cdv A outer s H vs Q E hr h => let ⟨t, h1, h2⟩ := hbody cdv A outer s H vs Q E hr h; ⟨t, h1.nox, h2⟩
section
open Evl
theorem q_par {i j : Nat} {ta : TA} {tz : TS} {D : Ends} {σ : L2.St} {H : Hp} {v w : V} (h : EvA ta σ H [v, w]) (k : ∀ H1, Ex H H1 → tz D ((σ.set i (some v)).set j (some w)) H1) : tSeq (tPar i j ta) tz D σ H :=
  h H (Ex.refl H) _ fun H1 e => ⟨v, w, rfl, k H1 e⟩
theorem q_par3 {i j l : Nat} {ta : TA} {tz : TS} {D : Ends} {σ : L2.St} {H : Hp} {v w u : V} (h : EvA ta σ H [v, w, u]) (k : ∀ H1, Ex H H1 → tz D (((σ.set i (some v)).set j (some w)).set l (some u)) H1) : tSeq (tPar3 i j l ta) tz D σ H :=
  h H (Ex.refl H) _ fun H1 e => ⟨v, w, u, rfl, k H1 e⟩
end
end Way

/-! own == with either answer; in, not in, == of tuples over it; own in, len, operators -/
namespace Way
open PySem PySem.Spec PyProof.Rows L2
open AutoSeq1 (wpAny_loadPart')
open MeetsSeq MeetsSeq2 MeetsSeq3 SeqRoads2
section
variable {prog : Program} {w : World} {A : Around} {R : Result → Shared → Prop}
def ListC (prog : Program) (w : World) (A : Around) (E : Value → Shared → Prop) (l : Addr) (x : Value) (N : Nat) (e : Nat → Bool) (I : Shared → Prop) : Prop :=
  ∀ s, I s → ∃ (items : Array Value) (n : Nat), s.heap.get? l = some { cls := .type "list", data := .seq items n } ∧ items.size = N ∧
    ∀ i (h1 : i < items.size), wpAny (model prog w) A.in1 (eqBool items[i] x) (fun r s' => r = e i ∧ I s') E s
theorem contains_loopB (l : Addr) (x : Value) (N : Nat) (e : Nat → Bool) (b : Bool) (I : Shared → Prop) (hl : ListC prog w A (fun e s' => R (.error e) s') l x N e I)
    (hb : b = (List.range N).any e) (fin : ∀ s, I s → R (.ok (.ret (.bool b))) s) (k : Nat) :
    ∀ i : Nat, N - i = k → i ≤ N → (∀ j < i, e j = false) → ∀ s, I s →
      wpAny (model prog w) A.in1 (Builtin.«list.__contains__.loop» ⟨[.ref l, x, rawInt i], []⟩) (GQ.FinOf prog w A R) (fun e s' => R (.error e) s') s := by
  induction k with
  | zero =>
    intro i hk hi hf s h
    obtain ⟨items, n, hl1, hs1, _⟩ := hl _ h
    have hi' : i = N := by omega
    have hb' : b = false := by
      rw [hb, List.any_eq_false]
      intro j hj
      rw [hf j (by rw [hi']; exact List.mem_range.mp hj)]
      exact Bool.false_ne_true
    have hR := fin s h
    rw [hb'] at hR
    obtain ⟨hp, g, d, tk, os⟩ := s
    wp_walk using wpAny_loadPart' hl1
    have hi1 : items[((i : Nat) : Int).toNat]? = none := by simp; omega
    rw [hi1]
    wp_walk
    exact hR
  | succ k ih =>
    intro i hk hi hf s h
    obtain ⟨items, n, hl1, hs1, turn⟩ := hl _ h
    have hlt : i < items.size := by omega
    have ht := turn i hlt
    obtain ⟨hp, g, d, tk, os⟩ := s
    wp_walk using wpAny_loadPart' hl1
    have hi1 : items[((i : Nat) : Int).toNat]? = some items[i] := by simp [hlt]
    have hc : ((i : Int) + 1) = ((i + 1 : Nat) : Int) := by omega
    rw [hi1]
    refine wpAny_bind (wpAny_mono ht (fun r s2 h2 => ?_) fun _ _ x => x)
    obtain ⟨hr, h2⟩ := h2
    subst hr
    cases hb' : e i with
    | true =>
      have hbt : b = true := by
        rw [hb, List.any_eq_true]
        exact ⟨i, List.mem_range.mpr (by omega), hb'⟩
      have hR := fin s2 h2
      rw [hbt] at hR
      obtain ⟨hp2, g2, d2, tk2, os2⟩ := s2
      wp_walk
      exact hR
    | false =>
      have hrec := ih (i + 1) (by omega) (by omega) (fun j hj => by
        rcases Nat.lt_or_ge j i with q | q
        · exact hf j q
        · have : j = i := by omega
          rw [this]; exact hb') s2 h2
      obtain ⟨hp2, g2, d2, tk2, os2⟩ := s2
      wp_walk
      rw [hc]
      exact ⟨plainId_quiet plain_contains_loop _, codeAny_builtin entry_contains_loop (by
        rw [Around.under_plainId plain_contains_loop _]
        exact hrec)⟩
theorem list_containsB (l : Addr) (x : Value) (N : Nat) (e : Nat → Bool) (b : Bool) (I : Shared → Prop) (hl : ListC prog w A (fun e s' => R (.error e) s') l x N e I)
    (hb : b = (List.range N).any e) (fin : ∀ s, I s → R (.ok (.ret (.bool b))) s) {s : Shared} (h : I s) :
    wpAny (model prog w) A.in1 (Builtin.«list.__contains__» ⟨[.ref l, x], []⟩) (GQ.FinOf prog w A R) (fun e s' => R (.error e) s') s := by
  obtain ⟨items, n, hl1, hs1, _⟩ := hl _ h
  have hrec := contains_loopB (A := A) (R := R) l x N e b I hl hb fin _ 0 rfl (Nat.zero_le _) (fun j hj => absurd hj (Nat.not_lt_zero _)) s h
  obtain ⟨hp, g, d, tk, os⟩ := s
  wp_walk using wpAny_loadPart' hl1
  exact ⟨plainId_quiet plain_contains_loop _, codeAny_builtin entry_contains_loop (by
    rw [Around.under_plainId plain_contains_loop _]
    exact hrec)⟩
theorem in_listB {E : Value → Shared → Prop} {l : Addr} {x : Value} {N : Nat} {e : Nat → Bool} {I : Shared → Prop} {Q : Value → Shared → Prop} (hl : ListC prog w A E l x N e I) {s : Shared} (h : I s)
    (fin : ∀ s, I s → Q (.bool ((List.range N).any e)) s) : wpAny (model prog w) A (compareOp .In x (.ref l)) Q E s := by
  obtain ⟨items, n, hl1, hs1, _⟩ := hl _ h
  have hT : s.TypeIs (.ref l) "list" := ⟨_, hl1, rfl⟩
  show wpAny _ A (do return .bool (← contains (.ref l) x)) Q E s
  refine wpAny_bind (wpAny_contains_slot hT F.slot_list_contains (wpAny_mono (GQ.call_here (Q := fun v s' => ∃ b, v = .bool b ∧ Q (.bool b) s') F.slot_list_contains hT F.entry_list_contains (F.args_list_contains_2 _ _) (list_containsB l x N e _ I hl rfl (fun s' hs' => ⟨_, rfl, fin s' hs'⟩) h)) (fun v s' hv => ?_) fun _ _ e => e))
  obtain ⟨b, rfl, hq⟩ := hv
  exact wpAny_truthy_bool (wpAny_pure hq)
theorem notIn_listB {E : Value → Shared → Prop} {l : Addr} {x : Value} {N : Nat} {e : Nat → Bool} {I : Shared → Prop} {Q : Value → Shared → Prop} (hl : ListC prog w A E l x N e I) {s : Shared} (h : I s)
    (fin : ∀ s, I s → Q (.bool (!(List.range N).any e)) s) : wpAny (model prog w) A (compareOp .NotIn x (.ref l)) Q E s := by
  obtain ⟨items, n, hl1, hs1, _⟩ := hl _ h
  have hT : s.TypeIs (.ref l) "list" := ⟨_, hl1, rfl⟩
  show wpAny _ A (do return .bool (!(← contains (.ref l) x))) Q E s
  refine wpAny_bind (wpAny_contains_slot hT F.slot_list_contains (wpAny_mono (GQ.call_here (Q := fun v s' => ∃ b, v = .bool b ∧ Q (.bool (!b)) s') F.slot_list_contains hT F.entry_list_contains (F.args_list_contains_2 _ _) (list_containsB l x N e _ I hl rfl (fun s' hs' => ⟨_, rfl, fin s' hs'⟩) h)) (fun v s' hv => ?_) fun _ _ e => e))
  obtain ⟨b, rfl, hq⟩ := hv
  exact wpAny_truthy_bool (wpAny_pure hq)
end
/-! == of two tuples, item by item, either answer -/
section
variable {prog : Program} {w : World} {A : Around} {R : Result → Shared → Prop}
theorem tuple_eqB (l b : Addr) (items items2 : Array Value) (n n2 : Nat) (dd dd2 : Option Addr) (sl sl2 : Array (Option Value)) (e : Nat → Bool) (I : Shared → Prop)
    (turn : ∀ i (h1 : i < items.size) (h2 : i < items2.size) s, I s → wpAny (model prog w) A.in1 (eqBool items[i] items2[i]) (fun r s' => r = e i ∧ I s') (fun e s' => R (.error e) s') s)
    (fin : ∀ s, I s → R (.ok (.ret (.bool ((List.range (min items.size items2.size)).all e && items.size == items2.size)))) s) {s : Shared} (hl1 : s.heap.get? l = some { cls := .type "tuple", dict := dd, data := .seq items n, slots := sl }) (hb1 : s.heap.get? b = some { cls := .type "tuple", dict := dd2, data := .seq items2 n2, slots := sl2 }) (h : I s) :
    wpAny (model prog w) A.in1 (Builtin.«tuple.__eq__» ⟨[.ref l, .ref b], []⟩) (GQ.FinOf prog w A R) (fun e s' => R (.error e) s') s := by
  have f2 := AutoSeq1.sub_tuple_tuple
  have hZ : (items.toList.zip items2.toList).length = min items.size items2.size := by simp
  have h0 := h
  obtain ⟨hp, g, d, tk, os⟩ := s
  wp_walk using wpAny_loadPart' hl1, wpAny_loadPart' hb1, wpAny_forIn_list _ (fun rest b s' => b.1 = none ∧ ∃ i, rest = (items.toList.zip items2.toList).drop i ∧ i ≤ min items.size items2.size ∧ (∀ j < i, e j = true) ∧ I s') _
  case turn =>
    rintro ⟨y, x⟩ rest b s' ⟨hb', i, hz, hi, hf, hI⟩
    have hlt : i < (items.toList.zip items2.toList).length := by
      rcases Nat.lt_or_ge i (items.toList.zip items2.toList).length with h' | h'
      · exact h'
      · rw [List.drop_of_length_le h'] at hz; cases hz
    have h1 : i < items.size := by omega
    have h2 : i < items2.size := by omega
    rw [List.drop_eq_getElem_cons hlt] at hz
    injection hz with hyx hrest
    have hy : y = items[i] := by have := congrArg Prod.fst hyx; simpa using this
    have hx : x = items2[i] := by have := congrArg Prod.snd hyx; simpa using this
    subst hy hx
    refine wpAny_bind (wpAny_mono (turn i h1 h2 s' hI) (fun r s2 q2 => ?_) fun _ _ x => x)
    obtain ⟨hr, q2⟩ := q2
    subst hr
    cases hq : e i with
    | true =>
      wp_walk
      refine ⟨rfl, i + 1, hrest, by omega, fun j hj => ?_, q2⟩
      rcases Nat.lt_or_ge j i with q | q
      · exact hf j q
      · have : j = i := by omega
        rw [this]; exact hq
    | false =>
      have hR := fin s2 q2
      have hn : (List.range (min items.size items2.size)).all e = false := by
        rw [List.all_eq_false]
        exact ⟨i, List.mem_range.mpr (by omega), by rw [hq]; exact Bool.false_ne_true⟩
      rw [hn] at hR
      wp_walk
      simpa using hR
  case fin =>
    rintro ⟨b1, b2⟩ s' ⟨hb', i, hz, hi, hf, hI⟩
    simp only at hb'
    subst hb'
    have hge : min items.size items2.size ≤ i := by
      rcases Nat.lt_or_ge i (items.toList.zip items2.toList).length with h' | h'
      · rw [List.drop_eq_getElem_cons h'] at hz; cases hz
      · exact hZ ▸ h'
    have hR := fin s' hI
    have hn : (List.range (min items.size items2.size)).all e = true := by
      rw [List.all_eq_true]
      exact fun j hj => hf j (by have := List.mem_range.mp hj; omega)
    rw [hn] at hR
    wp_walk
    simpa [Builtin.Tuple.tupleCompareSizes] using hR
  case h =>
    exact ⟨rfl, 0, rfl, Nat.zero_le _, fun j hj => absurd hj (Nat.not_lt_zero _), h0⟩
theorem rc_tupB {E : Value → Shared → Prop} {l b : Addr} {items items2 : Array Value} {e : Nat → Bool} {Q : Value → Shared → Prop} (hu : A.units < cLine) (I : Shared → Prop) {s : Shared}
    (hl : s.heap.IsTuple l items) (hb : s.heap.IsTuple b items2)
    (turn : ∀ i (h1 : i < items.size) (h2 : i < items2.size) s, I s → wpAny (model prog w) A.in1 (eqBool items[i] items2[i]) (fun r s' => r = e i ∧ I s') E s)
    (fin : ∀ s, I s → Q (.bool ((List.range (min items.size items2.size)).all e && items.size == items2.size)) s) (h : I s) : wpAny (model prog w) A (richCompare .Eq (.ref l) (.ref b)) Q E s := by
  obtain ⟨⟨cls, dd, data, sl⟩, ho, hc, n, hd⟩ := id hl
  obtain ⟨⟨cls2, dd2, data2, sl2⟩, ho2, hc2, n2, hd2⟩ := id hb
  simp only at hc hd hc2 hd2
  subst hc hd hc2 hd2
  refine wpAny_richCompare_same_room (op := .Eq) ⟨_, ho, rfl⟩ ⟨_, ho2, rfl⟩ F.slot_tuple_eq (GQ.call_here F.slot_tuple_eq ⟨_, ho, rfl⟩ F.entry_tuple_eq (F.args_tuple_eq_2 _ _) ?_) hu
  exact tuple_eqB (R := wants (fun v s' => v ≠ .notImplemented ∧ Q v s') E) l b items items2 n n2 dd dd2 sl sl2 e I turn (fun s' q => ⟨(fun x => nomatch x), fin s' q⟩) ho ho2 h
end

/-! the answers of == as a relation -/
abbrev EqvB := V → V → Hp → Bool → Prop
def MonB (D : EqvB) : Prop := ∀ x y H H' b, Ext H H' → D x y H b → D x y H' b
def EqB (X : Cx) (n : Nat) (D : EqvB) : Prop :=
  ∀ (A : Around) (pins : List (Addr × Obj)) (s : Shared) (σ : L2.St) (H : Hp) (x y : V) (u v : Value) (b : Bool), Sub X n A → Inv X pins σ H s → RelV x u → RelV y v → D x y H b →
    wpAny (model X.prog X.w) A (eqBool u v) (fun r s' => r = b ∧ LoopI X pins σ H s') X.xe s
def RcB (X : Cx) (n : Nat) (D : EqvB) : Prop :=
  ∀ (A : Around) (pins : List (Addr × Obj)) (s : Shared) (σ : L2.St) (H : Hp) (x y : V) (u v : Value) (b : Bool), Sub X n A → Inv X pins σ H s → RelV x u → RelV y v → D x y H b →
    wpAny (model X.prog X.w) A (richCompare .Eq u v) (fun r s' => r = .bool b ∧ LoopI X pins σ H s') X.xe s
/-- an own ==: the promise -/
def spEqB (R : Addr → V → Hp → Bool → Prop) : Sp := fun vs H Q _ => ∃ a y b, vs = [.ref a, y] ∧ R a y H b ∧ ∀ H', Ext H H' → Q (.bl b) H'
/-- x an instance of C, y a value of a type that does not go first -/
def DOwn (K : PySem.W.Frag) (C : Addr) (R : Addr → V → Hp → Bool → Prop) : EqvB := fun x y H b => ∃ a dx fs t, x = .ref a ∧ H a = some (.ins C dx fs) ∧ TyX K H y t ∧ PySem.W.notFirst K C t = true ∧ R a y H b
section
variable {X : Cx} {n m : Nat} {D : EqvB}
theorem EqB.mono (h : EqB X n D) (hn : n ≤ m) : EqB X m D := fun A pins s σ H x y u v b sb => h A pins s σ H x y u v b (sb.mono hn)
theorem RcB.mono (h : RcB X n D) (hn : n ≤ m) : RcB X m D := fun A pins s σ H x y u v b sb => h A pins s σ H x y u v b (sb.mono hn)
/-- a call of a def within a builtin -/
theorem own_call {CX : CXT} {f : Addr} {fd : FuncData} {ps : List Str} {sp : Sp} {E : XK} {A : Around} {pins : List (Addr × Obj)} {s : Shared} {σ : L2.St} {H : Hp} {vs : List V} {us : List Value} {Q : VK} (F : FnOk X.prog X.w X.K X.mg X.base CX n f fd ps sp) (hb : Binds X.K fd ps []) (hx : Passes CX X E)
    (sb : Sub X n A) (I : Inv X pins σ H s) (r2 : Vals vs us) (hsp : sp vs H Q E) : wpAny (model X.prog X.w) A (call (.ref f) us) (EP X pins σ Q) X.xe s := by
  have e0 : Env0 X.prog X.w X.K X.mg X.base A X.stack s H := by
    have e := I.env0
    exact ⟨by rw [sb.fr]; exact e.frames, e.mod, e.bs, e.bsz, e.funs, e.frf, e.hok, e.bare⟩
  have hl := F.len _ _ _ _ hsp
  refine wpAny_call (codeAny_mono (F.run A X.stack s H ⟨us, []⟩ us vs _ E sb.room e0 (by
    have := hb s us I.kIn (by simpa [← r2.length] using hl)
    simpa using this) r2 hsp) fun r s' hq => ?_)
  cases r with
  | error e => exact hx pins σ H s e s' I hq
  | ok fl =>
    cases fl with
    | ret w => exact I.after hq
    | next => exact False.elim hq
    | brk => exact False.elim hq
    | cont => exact False.elim hq
theorem rcB_own {CX : CXT} {C f : Addr} {fd : FuncData} {ps : List Str} {R : Addr → V → Hp → Bool → Prop} {E : XK} (F : FnOk X.prog X.w X.K X.mg X.base CX n f fd ps (spEqB R))
    (hs : PySem.W.findIn X.K (.ref C) "__eq__" = some (some (.ref f))) (hf : PySem.W.isFn X.K (.ref f) = true) (hb : Binds X.K fd ps []) (hx : Passes CX X E) : RcB X n (DOwn X.K C R) := by
  intro A pins s σ H x y u v b sb I rx ry d
  obtain ⟨a, dx, fs, t, rfl, ha, ty, hn, hr⟩ := d
  cases rx
  obtain ⟨mA, J, _⟩ := ins_get I.hok ha
  obtain ⟨od, J, _⟩ := J.look
  obtain ⟨m, hF⟩ := I.fr
  obtain ⟨P, Z, p, hx'⟩ := kit_of I ry ty
  refine PySem.W.cmp_K (op := .Eq) (tb := t) sb.room.units0 hF I.ok.mod.kin J (Z.ty _ _ I.kIn p) hn hs hf ?_
  refine wpAny_mono (own_call (vs := [.ref a, y]) (Q := fun v H' => v = .bl b ∧ Ext H H') F hb hx sb I (.cons rfl (.cons ry .nil)) ⟨a, y, b, rfl, hr, fun H' e => ⟨rfl, e⟩⟩) (fun r s' hq => ?_) fun _ _ x => x
  obtain ⟨z, H', I', rz, ez, ex⟩ := hq
  subst ez
  cases rz
  exact ⟨rfl, H', I', ex⟩
/-- == inside a builtin: an object is equal to itself -/
theorem RcB.eqB (h : RcB X n D) (hr : ∀ x y H b, D x y H b → ∃ a c, x = .ref a ∧ y = .ref c ∧ (a = c → b = true)) : EqB X n D := by
  intro A pins s σ H x y u v b sb I rx ry d
  obtain ⟨a, c, rfl, rfl, hid⟩ := hr _ _ _ _ d
  cases rx
  cases ry
  by_cases hab : a = c
  · subst hab
    exact SeqAt.EqAt.same (A := A) (s := s) (.ref a) X.prog X.w X.xe _ ⟨(hid rfl).symm, H, I, Ext.rfl'⟩
  · refine GQ.eqBool_refG hab (wpAny_mono (h A pins s σ H (.ref a) (.ref c) _ _ b sb I rfl rfl d) (fun r s' q => ?_) fun _ _ x => x)
    obtain ⟨hr', q⟩ := q
    exact ⟨b, hr', rfl, q⟩
/-- x == y -/
def rEqB (D : EqvB) : R2 := fun x y H Q => ∃ b, D x y H b ∧ ∀ H', Ext H H' → Q (.bl b) H'
theorem op_eqB (h : RcB X n D) (hr : Room n X.A) : OpR X (compareOp .Eq) (rEqB D) := by
  intro pins s σ H x y v u Q I rx ry hq
  obtain ⟨b, d, q⟩ := hq
  show wpAny (model X.prog X.w) X.A (richCompare .Eq v u) (EP X pins σ Q) X.xe s
  refine wpAny_mono (h X.A pins s σ H x y v u b ⟨hr, rfl⟩ I rx ry d) (fun r s' z => ?_) fun _ _ x => x
  obtain ⟨hr', H', I', e⟩ := z
  subst hr'
  exact ⟨.bl b, H', I', rfl, q H' e⟩
/-- the answers item by item -/
def AllB (D : EqvB) (e : Nat → Bool) (xs ys : List V) (H : Hp) : Prop := ∀ (i : Nat) x y, xs[i]? = some x → ys[i]? = some y → D x y H (e i)
def DTupB (K : PySem.W.Frag) (D : EqvB) : EqvB := fun x y H b => ∃ p q xs ys e, x = .ref p ∧ y = .ref q ∧ SqT K H p xs ∧ SqT K H q ys ∧ AllB D e xs ys H ∧ b = ((List.range (min xs.length ys.length)).all e && xs.length == ys.length)
theorem arr_at {xs : List V} {its : List Value} (r : Vals xs its) {i : Nat} (h1 : i < its.toArray.size) : ∃ x, xs[i]? = some x ∧ RelV x its.toArray[i] := by
  have g1 : its[i]? = some its.toArray[i] := by
    have h1' : i < its.length := by simpa using h1
    rw [List.getElem?_eq_getElem h1'] <;> simp
  have k1 : i < xs.length := by rw [r.length]; simpa using h1
  obtain ⟨u, hu, ru⟩ := r.get (List.getElem?_eq_getElem k1)
  rw [g1] at hu
  exact ⟨_, List.getElem?_eq_getElem k1, Option.some.inj hu ▸ ru⟩
theorem rcB_tup (hD : MonB D) (h : EqB X n D) : RcB X (n + 1) (DTupB X.K D) := by
  intro A pins s σ H x y u v b sb I rx ry d
  obtain ⟨p, q, xs, ys, e, rfl, rfl, hp, hq, ha, rfl⟩ := d
  cases rx
  cases ry
  obtain ⟨its, r, t1, z⟩ := I.tuple hp
  obtain ⟨its2, r2, t2, z2⟩ := I.tuple hq
  refine rc_tupB (e := e) sb.room.units0 (fun s' => LoopI X pins σ H s') t1 t2 (fun i h1 h2 s' q => ?_) (fun s' q => ?_) ⟨H, I, Ext.rfl'⟩
  · obtain ⟨H1, I1, e1⟩ := q
    obtain ⟨a, ga, ra⟩ := arr_at r h1
    obtain ⟨c, gc, rc⟩ := arr_at r2 h2
    refine wpAny_mono (h A.in1 pins s' σ H1 a c _ _ (e i) sb.in1 I1 ra rc (hD _ _ _ _ _ e1 (ha i a c ga gc))) (fun r s2 q => ?_) fun _ _ x => x
    obtain ⟨hr, H2, I2, e2⟩ := q
    exact ⟨hr, H2, I2, e1.trans e2⟩
  · refine ⟨?_, q⟩
    rw [List.size_toArray, List.size_toArray, ← r.length, ← r2.length]
/-- x in a list, by == -/
def rInB (D : EqvB) (neg : Bool) : R2 := fun x y H Q => ∃ p ys e, y = .ref p ∧ H p = some (.lst ys) ∧ (∀ (i : Nat) z, ys[i]? = some z → D z x H (e i)) ∧ ∀ H', Ext H H' → Q (.bl (if neg then !(List.range ys.length).any e else (List.range ys.length).any e)) H'
theorem list_C (hD : MonB D) (h : EqB X n D) {A : Around} (sb : Sub X (n + 1) A) {pins : List (Addr × Obj)} {σ : L2.St} {H : Hp} {p : Addr} {x : V} {v : Value} {ys : List V} {e : Nat → Bool} (rx : RelV x v) (hp : H p = some (.lst ys)) (he : ∀ (i : Nat) z, ys[i]? = some z → D z x H (e i)) :
    ListC X.prog X.w A X.xe p v ys.length e (fun s' => LoopI X pins σ H s') := by
  intro s' q
  obtain ⟨H1, I1, e1⟩ := id q
  obtain ⟨z, its, k, r, g⟩ := I1.hok p _ (e1 _ _ hp)
  refine ⟨its.toArray, k, g, by rw [List.size_toArray, ← r.length], fun i h1 => ?_⟩
  obtain ⟨a, ga, ra⟩ := arr_at r h1
  refine wpAny_mono (h A.in1 pins s' σ H1 a x _ _ (e i) sb.in1 I1 ra rx (hD _ _ _ _ _ e1 (he i a ga))) (fun r s2 q => ?_) fun _ _ x => x
  obtain ⟨hr, H2, I2, e2⟩ := q
  exact ⟨hr, H2, I2, e1.trans e2⟩
theorem op_inB (hD : MonB D) (h : EqB X n D) (hr : Room (n + 1) X.A) : OpR X (compareOp .In) (rInB D false) := by
  intro pins s σ H x y v u Q I rx ry hq
  obtain ⟨p, ys, e, rfl, hp, he, q⟩ := hq
  cases ry
  exact in_listB (list_C hD h ⟨hr, rfl⟩ rx hp he) ⟨H, I, Ext.rfl'⟩ fun s' ⟨H1, I1, e1⟩ => ⟨.bl ((List.range ys.length).any e), H1, I1, rfl, q H1 e1⟩
theorem op_notInB (hD : MonB D) (h : EqB X n D) (hr : Room (n + 1) X.A) : OpR X (compareOp .NotIn) (rInB D true) := by
  intro pins s σ H x y v u Q I rx ry hq
  obtain ⟨p, ys, e, rfl, hp, he, q⟩ := hq
  cases ry
  exact notIn_listB (list_C hD h ⟨hr, rfl⟩ rx hp he) ⟨H, I, Ext.rfl'⟩ fun s' ⟨H1, I1, e1⟩ => ⟨.bl (!(List.range ys.length).any e), H1, I1, rfl, q H1 e1⟩
end
end Way

/-! own !=, in, len, operators of two of one class -/
namespace Way
open PySem PySem.Spec PyProof.Rows L2
section
variable {M : Model} {prog : Program} {w : World} {A : Around} {E : Value → Shared → Prop} {s : Shared} {K : PySem.W.Frag} {x C f : Addr} {ox : Obj} {od : Option Obj} {b tb : Value}
theorem objNe_K {Q : PySem.Fin → Shared → Prop} (hu : A.units < cLine) (X : K.In s.heap) (I : PySem.W.InstAt s.heap x ox C od) (hs : PySem.W.findIn K (.ref C) "__eq__" = some (some (.ref f))) (hf : PySem.W.isFn K (.ref f) = true)
    (hcall : wpAny (model prog w) A (call (.ref f) [.ref x, b]) (fun v s' => ∃ c, v = .bool c ∧ Q (.done (.ret (.bool (!c)))) s') E s) :
    wpAny (model prog w) A (Builtin.«object.__ne__» ⟨[.ref x, b], []⟩) Q E s := by
  unfold Builtin.«object.__ne__»
  repeat (first
    | with_reducible refine wpAny_cRoomFor hu ?_
    | (refine wpAny_bind (m := callSpecialIfBound? (.ref x) (Str.ofString "__eq__") [b])
        (PySem.W.ifBound_K X I hs hf (wpAny_mono hcall (fun r s' hr => by
          obtain ⟨b, rfl, hq⟩ := hr
          repeat (first | exact hq | exact wpAny_pure hq | exact wpAny_truthy_bool hq | (refine wpAny_bind (m := truthy (.bool _)) (wpAny_truthy_bool ?_)) | wp_step)) fun _ _ e => e)))
    | wp_step)
theorem call_objNe {Q : Value → Shared → Prop} (hu : A.in1.units < cLine) (X : K.In s.heap) (I : PySem.W.InstAt s.heap x ox C od) (hm : PySem.W.mroIn K C (.type "object") = some true) (hs : PySem.W.findIn K (.ref C) "__eq__" = some (some (.ref f))) (hf : PySem.W.isFn K (.ref f) = true)
    (hcall : wpAny (model prog w) A.in1 (call (.ref f) [.ref x, b]) (fun v s' => ∃ c, v = .bool c ∧ Q (.bool (!c)) s') E s) :
    wpAny (model prog w) A (call (.builtin "object.__ne__") [.ref x, b]) Q E s :=
  wpAny_call (codeAny_call_builtin F.cmp_object.ne.plain F.cmpEntry_ne (PySem.W.check_slot F.cmpKind_ne F.cmpSplit_ne (I.type.andThen (PySem.W.looks_mroIn X hm)) (F.cmpArgs_ne _ _) (objNe_K hu X I hs hf hcall)))
theorem ifBound_objNe {args : List Value} {Q : Option Value → Shared → Prop} (X : K.In s.heap) (I : PySem.W.InstAt s.heap x ox C od) (hs : PySem.W.findIn K (.ref C) "__ne__" = some (some (.builtin "object.__ne__")))
    (h : wpAny M A (call (.builtin "object.__ne__") (.ref x :: args)) (fun v => Q (some v)) E s) : wpAny M A (callSpecialIfBound? (.ref x) "__ne__" args) Q E s := by
  simp only [callSpecialIfBound?, bindSpecialIfBound?]
  refine wpAny_holding (wpAny_bind (wpAny_bind (wpAny_bind (I.type.here ((PySem.W.looks_findIn X hs).here ?_)))))
  refine wpAny_bind (wpAny_askSetting (wpAny_ite ?_))
  have fin : wpAny M A (call (.builtin "object.__ne__") ([.ref x] ++ args) >>= fun v => pure (some v)) Q E s := wpAny_bind (wpAny_mono h (fun v s' h' => wpAny_pure h') fun _ _ h' => h')
  split
  · exact wpAny_bind (wpAny_of_eq (F.cmp_object.ne.bind _) (wpAny_pure (by exact fin)))
  · exact wpAny_tryCatch (wpAny_bind (wpAny_of_eq (F.cmp_object.ne.bind _) (wpAny_pure (by exact fin))))
theorem rc_neK {Q : Value → Shared → Prop} (hu : A.units < cLine) (hu1 : A.in1.units < cLine) (X : K.In s.heap) (I : PySem.W.InstAt s.heap x ox C od) (hm : PySem.W.mroIn K C (.type "object") = some true) (hb : PySem.W.Looks (model prog w) s.heap (typeOf b) tb) (hn : PySem.W.notFirst K C tb = true)
    (hs : PySem.W.findIn K (.ref C) "__eq__" = some (some (.ref f))) (hne : PySem.W.findIn K (.ref C) "__ne__" = some (some (.builtin "object.__ne__"))) (hf : PySem.W.isFn K (.ref f) = true)
    (h : wpAny (model prog w) A.in1 (call (.ref f) [.ref x, b]) (fun v s' => ∃ c, v = .bool c ∧ Q (.bool (!c)) s') E s) : wpAny (model prog w) A (richCompare .NotEq (.ref x) b) Q E s := by
  have one : wpAny (model prog w) A (tryCompare (.ref x) "__ne__" b) (fun r s' => ∃ v, r = some v ∧ Q v s') E s := by
    unfold tryCompare
    refine wpAny_bind (ifBound_objNe X I hne (call_objNe hu1 X I hm hs hf (wpAny_mono h (fun v s' hv => ?_) fun _ _ e => e)))
    obtain ⟨c, rfl, hq⟩ := hv
    exact ⟨c, rfl, wpAny_pure ⟨_, rfl, hq⟩⟩
  unfold richCompare
  simp only [oneThing_ref, cmpInfo_NotEq]
  refine wpAny_holding (wpAny_bind (wpAny_cRoomFor hu ?_))
  refine wpAny_bind (I.type.here (wpAny_bind (hb.here ?_)))
  split
  · rename_i q
    have e : PySem.W.subIn K tb (.ref C) = some false := by
      rcases Bool.or_eq_true_iff.mp hn with e | e
      · rw [beq_iff_eq.mp e] at q; simp at q
      · exact beq_iff_eq.mp e
    refine wpAny_bind ((PySem.W.looks_subIn X e).here ?_)
    simp only [Bool.false_eq_true, if_false]
    refine wpAny_bind (wpAny_mono one (fun r s' z => ?_) fun _ _ e => e)
    obtain ⟨v, rfl, hq⟩ := z
    exact wpAny_pure hq
  · refine wpAny_bind (wpAny_pure ?_)
    simp only [Bool.false_eq_true, if_false]
    refine wpAny_bind (wpAny_mono one (fun r s' z => ?_) fun _ _ e => e)
    obtain ⟨v, rfl, hq⟩ := z
    exact wpAny_pure hq
end
section
variable {X : Cx} {n : Nat} {CX : CXT} {C f : Addr} {fd : FuncData} {ps : List Str} {sp : Sp} {E : XK}
/-- x != y, by the own == of x's class -/
def rNeB (D : EqvB) : R2 := fun x y H Q => ∃ b, D x y H b ∧ ∀ H', Ext H H' → Q (.bl (!b)) H'
theorem op_neB {R : Addr → V → Hp → Bool → Prop} (F : FnOk X.prog X.w X.K X.mg X.base CX n f fd ps (spEqB R)) (hm : PySem.W.mroIn X.K C (.type "object") = some true)
    (hs : PySem.W.findIn X.K (.ref C) "__eq__" = some (some (.ref f))) (hne : PySem.W.findIn X.K (.ref C) "__ne__" = some (some (.builtin "object.__ne__"))) (hf : PySem.W.isFn X.K (.ref f) = true) (hb : Binds X.K fd ps []) (hx : Passes CX X E) (hr : Room (n + 1) X.A) :
    OpR X (compareOp .NotEq) (rNeB (DOwn X.K C R)) := by
  intro pins s σ H x y v u Q I rx ry hq
  obtain ⟨b, ⟨a, dx, fs, t, rfl, ha, ty, hn, hR⟩, q⟩ := hq
  cases rx
  obtain ⟨mA, J, _⟩ := ins_get I.hok ha
  obtain ⟨od, J, _⟩ := J.look
  obtain ⟨P, Z, p, hx'⟩ := kit_of I ry ty
  show wpAny (model X.prog X.w) X.A (richCompare .NotEq (.ref a) u) (EP X pins σ Q) X.xe s
  have sb : Sub X (n + 1) X.A := ⟨hr, rfl⟩
  refine rc_neK hr.units0 hr.in1.units0 I.kIn J hm (Z.ty _ _ I.kIn p) hn hs hne hf ?_
  refine wpAny_mono (own_call (vs := [.ref a, y]) (Q := fun v H' => v = .bl b ∧ Ext H H') F hb hx sb.in1 I (.cons rfl (.cons ry .nil)) ⟨a, y, b, rfl, hR, fun H' e => ⟨rfl, e⟩⟩) (fun r s' hq => ?_) fun _ _ x => x
  obtain ⟨z, H', I', rz, ez, ex⟩ := hq
  subst ez
  cases rz
  exact ⟨b, rfl, .bl (!b), H', I', rfl, q H' ex⟩
/-- x in o, o of a class with its own __contains__ -/
def rInO (C : Addr) (sp : Sp) (E : XK) (neg : Bool) : R2 := fun x y H Q => ∃ a dx fs, y = .ref a ∧ H a = some (.ins C dx fs) ∧ sp [.ref a, x] H (fun v H' => ∃ b, v = .bl b ∧ Q (.bl (if neg then !b else b)) H') E
theorem op_inO (F : FnOk X.prog X.w X.K X.mg X.base CX n f fd ps sp) (hs : PySem.W.findIn X.K (.ref C) "__contains__" = some (some (.ref f))) (hf : PySem.W.isFn X.K (.ref f) = true) (hb : Binds X.K fd ps []) (hx : Passes CX X E) (hr : Room n X.A) :
    OpR X (compareOp .In) (rInO C sp E false) := by
  intro pins s σ H x y v u Q I rx ry hq
  obtain ⟨a, dx, fs, rfl, ha, q⟩ := hq
  cases ry
  obtain ⟨mA, J, _⟩ := ins_get I.hok ha
  obtain ⟨od, J, _⟩ := J.look
  obtain ⟨m, hF⟩ := I.fr
  refine PySem.W.in_K hF I.ok.mod.kin J hs hf (wpAny_mono (own_call (vs := [.ref a, x]) F hb hx ⟨hr, rfl⟩ I (.cons rfl (.cons rx .nil)) q) (fun r s' hq => ?_) fun _ _ x => x)
  obtain ⟨z, H', I', rz, b, ez, q⟩ := hq
  subst ez
  cases rz
  exact wpAny_truthy_bool ⟨.bl b, H', I', rfl, q⟩
theorem op_notInO (F : FnOk X.prog X.w X.K X.mg X.base CX n f fd ps sp) (hs : PySem.W.findIn X.K (.ref C) "__contains__" = some (some (.ref f))) (hf : PySem.W.isFn X.K (.ref f) = true) (hb : Binds X.K fd ps []) (hx : Passes CX X E) (hr : Room n X.A) :
    OpR X (compareOp .NotIn) (rInO C sp E true) := by
  intro pins s σ H x y v u Q I rx ry hq
  obtain ⟨a, dx, fs, rfl, ha, q⟩ := hq
  cases ry
  obtain ⟨mA, J, _⟩ := ins_get I.hok ha
  obtain ⟨od, J, _⟩ := J.look
  obtain ⟨m, hF⟩ := I.fr
  refine PySem.W.notIn_K hF I.ok.mod.kin J hs hf (wpAny_mono (own_call (vs := [.ref a, x]) F hb hx ⟨hr, rfl⟩ I (.cons rfl (.cons rx .nil)) q) (fun r s' hq => ?_) fun _ _ x => x)
  obtain ⟨z, H', I', rz, b, ez, q⟩ := hq
  subst ez
  cases rz
  exact wpAny_truthy_bool ⟨.bl (!b), H', I', rfl, q⟩
/-- len(o) by an own __len__ -/
def rLenO (C : Addr) (sp : Sp) (E : XK) : List V → Hp → VK → Prop := fun xs H Q => ∃ a dx fs, xs = [.ref a] ∧ H a = some (.ins C dx fs) ∧ sp [.ref a] H (fun v H' => ∃ i, v = .int i ∧ (0 ≤ i ∧ i < 2 ^ 63) ∧ Q (.int i) H') E
theorem call_lenO (F : FnOk X.prog X.w X.K X.mg X.base CX n f fd ps sp) (hs : PySem.W.findIn X.K (.ref C) "__len__" = some (some (.ref f))) (hf : PySem.W.isFn X.K (.ref f) = true) (hb : Binds X.K fd ps []) (hx : Passes CX X E) (hr : Room (n + 1) X.A) :
    CallR X (.builtin "len") (rLenO C sp E) := by
  intro pins s σ H xs us Q I r hq
  obtain ⟨a, dx, fs, rfl, ha, q⟩ := hq
  obtain ⟨u, rfl, rx⟩ := vals1 r
  cases rx
  obtain ⟨mA, J, _⟩ := ins_get I.hok ha
  obtain ⟨od, J, _⟩ := J.look
  obtain ⟨m, hF⟩ := I.fr
  have sb : Sub X (n + 1) X.A := ⟨hr, rfl⟩
  refine PySem.W.len_K hF I.ok.mod.kin J hs hf (wpAny_mono (own_call (vs := [.ref a]) F hb hx sb.in1 I (.cons rfl .nil) q) (fun r s' hq => ?_) fun _ _ x => x)
  obtain ⟨z, H', I', rz, i, ez, hi, q⟩ := hq
  subst ez
  obtain ⟨t, rfl⟩ := rz
  exact ⟨hi, .int i, H', I'.tok _, ⟨_, rfl⟩, q⟩
/-- a | b, a & b of two instances of one class -/
def rBinO (C : Addr) (sp : Sp) (E : XK) : R2 := fun x y H Q => ∃ a c dx dy fs gs, x = .ref a ∧ y = .ref c ∧ H a = some (.ins C dx fs) ∧ H c = some (.ins C dy gs) ∧ sp [.ref a, .ref c] H Q E
theorem op_binO {op : Operator} (F : FnOk X.prog X.w X.K X.mg X.base CX n f fd ps sp) (hc : PySem.W.selfFirst X.K C = true) (hs : PySem.W.findIn X.K (.ref C) (PySem.dunder op.info.2) = some (some (.ref f))) (hf : PySem.W.isFn X.K (.ref f) = true) (hb : Binds X.K fd ps []) (hx : Passes CX X E) (hr : Room n X.A) :
    OpR X (binaryOp op) (rBinO C sp E) := by
  intro pins s σ H x y v u Q I rx ry hq
  obtain ⟨a, c, dx, dy, fs, gs, rfl, rfl, ha, hc', q⟩ := hq
  cases rx
  cases ry
  obtain ⟨mA, J, _⟩ := ins_get I.hok ha
  obtain ⟨od, J, _⟩ := J.look
  obtain ⟨mB, J2, _⟩ := ins_get I.hok hc'
  obtain ⟨od2, J2, _⟩ := J2.look
  obtain ⟨m, hF⟩ := I.fr
  refine PySem.W.binop_K hF I.ok.mod.kin J J2.type hc hs hf (wpAny_mono (own_call (vs := [.ref a, .ref c]) F hb hx ⟨hr, rfl⟩ I (.cons rfl (.cons rfl .nil)) q) (fun r s' hq => ?_) fun _ _ x => x)
  obtain ⟨z, H', I', rz, q⟩ := hq
  have ok : EP X pins σ Q r s' := ⟨z, H', I', rz, q⟩
  cases r with
  | notImplemented => cases z <;> first | (obtain ⟨t, ht⟩ := rz; cases ht) | cases rz
  | _ => exact ok
end
end Way

/-! defs that show data (repr): what is known is that no showing is under way around the call -/
namespace Way
open PySem PySem.Spec PyProof.Rows L2
structure FnG (P : Program) (w : World) (K : PySem.W.Frag) (mg : Str → Option Value) (base : Heap) (CX : CXT) (k : Nat) (f : Addr) (fd : FuncData) (ps : List Str) (sp : Sp) : Prop where
  len : ∀ vs H Q E, sp vs H Q E → vs.length = ps.length
  run : ∀ (A : Around) (outer : List Env) (s : Shared) (H : Hp) (args : Args) (us : List Value) (vs : List V) (Q : VK) (E : XK), A.guards = some [] → Room k A → Env0 P w K mg base A outer s H → BindsTo s fd args (ps.zip us) → Vals vs us → sp vs H Q E →
    codeAny (model P w) A (.call (.ref f) args) (CR CX outer P w H s Q E) s
theorem fnG_of {CX : CXT} {P : Program} {w : World} {K : PySem.W.Frag} {mg : Str → Option Value} {base : Heap} {k : Nat} {f : Addr} {name qual : Str} {params : Arguments} {body : List Stmt} {scope : Scope} {dV kV doc pm cdv ct oc : Value} {an od : Option Addr}
    {osl : Array (Option Value)} {N ps : List Str} {sp : Sp} (lk : K.lookup f = some ⟨oc, od, .func (PySem.W.fnOf name qual params body scope dV kV doc pm an cdv ct), osl⟩) (hcd : PySem.W.codeIn K cdv qual = true) (S : FnScope N ps scope)
    (len : ∀ vs H Q E, sp vs H Q E → vs.length = ps.length)
    (hbody : ∀ (A : Around) (outer : List Env) (s : Shared) (H : Hp) (vs : List V) (Q : VK) (E : XK), A.guards = some [] → Room k (A.deeper (envOfC qual scope s.heap.objs.size f cdv)) → sp vs H Q E →
      ∃ t, PSs (cxOf CX P w K mg base N qual scope f cdv A outer s H E) body t ∧ t { nx := fun _ H' => Q .non H', rt := Q } (start N vs) H) :
    FnG P w K mg base CX (k + 1) f (PySem.W.fnOf name qual params body scope dV kV doc pm an cdv ct) ps sp := by
  refine ⟨len, fun A outer s H args us vs Q E hgd hr e0 hb r hsp => ?_⟩
  have hl := len _ _ _ _ hsp
  have KX : K.In s.heap := e0.mod.kin.keeps fun b o e => (e0.bs b o e).1
  have lim : s.heap.NoLimit := e0.mod.nolimit.keeps fun b o e => (e0.bs b o e).1
  have hkind : ∀ y ∈ ps.zip us, scope.names.lookup y.1 = some .local ∨ (scope.names.lookup y.1 = some .cell ∧ ((cellsFrom (s.heap.objs.size + 1) scope.names []).lookup y.1).isSome = true) := fun ⟨n, v⟩ hy => by
    rcases S.par n (List.of_mem_zip hy).1 with q | q
    · exact .inl q
    · exact .inr ⟨q, PySem.W.cellsFrom_some _ _ _ (.inl q)⟩
  refine codeAny_call_function hr.depth (KX _ _ lk) rfl S.co S.gen rfl (PySem.W.codeRec_of KX hcd) (hb _ _ _ _ ?_)
  refine wpAny_newFunctionEnv_cells S.kind hkind fun env he s1 x => ?_
  subst he
  refine ⟨lim.keeps x.toInCall.keep, codeAny_func ?_⟩
  obtain ⟨t, ht, hq⟩ := hbody A outer s H vs Q E hgd (hr.deeper _) hsp
  have I : Inv (cxOf CX P w K mg base N qual scope f cdv A outer s H E) [] (start N vs) H s1 := inv_start S hr.hd e0 hl r x
  refine wpAny_mono (ht.run [] s1 (start N vs) H _ I hq) (fun fl s' hs => ?_) fun e s' hs => hs
  have fin : ∀ {σ' : L2.St} {H' : Hp} {v : V} {u : Value}, Inv (cxOf CX P w K mg base N qual scope f cdv A outer s H E) [] σ' H' s' → RelV v u → Q v H' → CE outer P w H s Q u s' :=
    fun {σ' H' v u} J rv q => ⟨v, H', J.os, J.bare, J.base, J.hok, rv, q⟩
  cases fl with
  | ret u =>
    obtain ⟨v, σ', H', J, rv, q⟩ := hs
    exact fin J rv q
  | next =>
    obtain ⟨σ', H', J, q⟩ := hs
    exact fin (v := V.non) (u := Value.none) J rfl q
  | brk =>
    obtain ⟨_, _, _, q⟩ := hs
    exact False.elim q
  | cont =>
    obtain ⟨_, _, _, q⟩ := hs
    exact False.elim q
section
variable {P : Program} {w : World} {K : PySem.W.Frag} {mg : Str → Option Value} {base : Heap}
theorem okG {x qual : Str} {st : Stmt} {f : Addr} {fd : FuncData} {N ps : List Str} {k : Nat} {sp : Sp} (F : Fun K x qual st f fd) (S : FnScope N ps (defScope st)) (len : ∀ vs H Q E, sp vs H Q E → vs.length = ps.length)
    (hbody : ∀ (cdv : Value) (A : Around) (outer : List Env) (s : Shared) (H : Hp) (vs : List V) (Q : VK) (E : XK), A.guards = some [] → Room k (A.deeper (envOfC qual (defScope st) s.heap.objs.size f cdv)) → sp vs H Q E →
      ∃ t, PSs (cxOf CX0 P w K mg base N qual (defScope st) f cdv A outer s H E).nox (defBody st) t ∧ t { nx := fun _ H' => Q .non H', rt := Q } (start N vs) H) : FnG P w K mg base CX0 (k + 1) f fd ps sp := by
  obtain ⟨oc, od, kV, doc, pm, an, cdv, ct, osl, rfl, lk, hcd⟩ := F.ex
  refine fnG_of lk hcd S len fun A outer s H vs Q E hgd hr hsp => ?_
  obtain ⟨t, h, q⟩ := hbody cdv A outer s H vs Q E hgd hr hsp
  exact ⟨t, h.nox, q⟩
end
section
variable {X : Cx} {CX : CXT} {k : Nat} {f : Addr} {fd : FuncData} {ps : List Str} {ds : List Value} {dvs : List V} {sp : Sp} {x : Str} {e : Expr} {es : List Expr} {t : TA} {E : XK} {p pos : Pos}
theorem run_fnG {pins : List (Addr × Obj)} {σ : L2.St} {H : Hp} {s : Shared} {Q : VK} {us : List Value} {vs : List V} (F : FnG X.prog X.w X.K X.mg X.base CX k f fd ps sp) (hgd : X.A.guards = some []) (hr : Room k X.A) (hb : Binds X.K fd ps ds) (hd : Vals dvs ds) (hx : Passes CX X E)
    (I : Inv X pins σ H s) (r : Vals vs us) (h : sp (vs ++ dvs) H Q E) : wpAny (model X.prog X.w) X.A (call (.ref f) us) (EP X pins σ Q) X.xe s := by
  have r2 : Vals (vs ++ dvs) (us ++ ds) := r.append hd
  have hl : (us ++ ds).length = ps.length := by rw [← r2.length]; exact F.len _ _ _ _ h
  refine wpAny_call (codeAny_mono (F.run X.A X.stack s H ⟨us, []⟩ (us ++ ds) (vs ++ dvs) Q E hgd hr I.env0 (hb s us I.kIn hl) r2 h) fun r s' hq => ?_)
  cases r with
  | error e => exact hx pins σ H s e s' I hq
  | ok fl =>
    cases fl with
    | ret u => exact I.after hq
    | next => exact False.elim hq
    | brk => exact False.elim hq
    | cont => exact False.elim hq
theorem pe_callG (F : FnG X.prog X.w X.K X.mg X.base CX k f fd ps sp) (hgd : X.A.guards = some []) (hr : Room k X.A) (hg : Gl X x) (hm : X.mg x = some (.ref f)) (hk : PySem.W.keepIn X.K (.ref f) = true) (hb : Binds X.K fd ps ds) (hd : Vals dvs ds) (hx : Passes CX X E)
    (ha : PA X (e :: es) t) (hdb : (x == ("__debug__" : Str)) = false := by decide) (he : starEach (e :: es) X.env = (false, eval e X.env) :: starEach es X.env := by rfl) (hpl : (backTo pos (starEach es X.env)).any (·.1) = false := by rfl) :
    PE X (.Call (.Name x p) (e :: es) [] pos) (tCall sp dvs E t) := by
  refine ⟨fun pins s σ H Q I h => ?_⟩
  refine wpAny_Call_Name_kw (ld_glob I hg hm ?_ hdb)
  refine PySem.W.callWith_K (h₀ := X.base) I.ok.mod.kin hk (thn (ha.run pos pins s σ H _ I h) fun us s1 ⟨vs, H1, I1, r, q⟩ => ⟨I1.kIn, ?_⟩) he hpl
  exact run_fnG F hgd hr hb hd hx I1 r q
/-- repr of data that stand at an address -/
def rRepr (K : PySem.W.Frag) : List V → Hp → VK → Prop := fun xs H Q => ∃ a d, xs = [.ref a] ∧ Dp K H (.ref a) d ∧ d.showable = true ∧ d.depth ≤ 60 ∧ d.hasDict = false ∧ d.shown.length ≤ sizeLine ∧ Q (.str d.shown) H
theorem call_reprD (hgd : X.A.guards = some []) (hr : Room k X.A) : CallR X (.builtin "repr") (rRepr X.K) := by
  intro pins s σ H xs us Q I r h
  obtain ⟨a, d, rfl, hd, hs, hdp, hnd, hsz, q⟩ := h
  obtain ⟨u, rfl, rx⟩ := vals1 r
  obtain ⟨as, rd⟩ := Dp.reads I d _ u hd rx
  cases rx
  have hun := hr.units
  refine repr_of_reads' rd hs (PyData.noDict_hsm hnd) hgd (by omega) (fun _ _ q => q) (fun h' u tk kp => ?_) hsz
  exact ⟨.str d.shown, H, I.kept (t' := tk) kp, ⟨_, rfl⟩, q⟩
end
/-! the end of a law that shows data -/
theorem law_callG {P : Program} {w : World} {K : PySem.W.Frag} {mg mb : Str → Option Value} {CX : CXT} {k : Nat} {fa a : Addr} {fd : FuncData} {x : Str} {sp : Sp} {s₁ : Shared} {vs : List Value} {ns : List Int}
    (KX : K.In s₁.heap) (hns : s₁.heap.Ns mainGlobals mg) (hb : s₁.heap.Ns builtinsNs mb) (hbb : ∀ x : Str, x ≠ "__name__" → mb x = bootBuiltins x) (hlim : s₁.heap.NoLimit) (hg : s₁.gens = #[])
    (ha : s₁.heap.get? a = some { cls := .type "list", data := .seq vs.toArray }) (hi : IntsAre vs ns) (hl : ns.length ≤ sizeLine) (hr : Room k callerA)
    (F : ∀ base : Heap, K.In base → base.Ns mainGlobals mg → FnG P w K mg base CX k fa fd [x] sp) (hbind : ∀ (s : Shared) (u : Value), BindsTo s fd ⟨[u], []⟩ [(x, u)])
    (hsp : ∀ H : Hp, Only H → SqL K H a (ns.map V.int) → sp [.ref a] H (fun v _ => v = .bl true) fun _ _ _ => False)
    (hCX : ∀ H e s', CX [] H s₁ (fun _ _ _ => False) e s' → False) :
    codeAny (model P w) callerA (.call (.ref fa) ⟨[.ref a], []⟩) (fun r s' => r = .ok (.ret (.bool true)) ∧ OldK s₁.heap s'.heap ∧ s'.os = s₁.os ∧ AllBare s'.gens) s₁ := by
  have rv := vals_ints hi
  have lenV := hi.length
  have core : ∀ H : Hp, Only H → SqL K H a (ns.map V.int) → HOk P w H s₁.heap → (∀ b, H b ≠ none → b = a) → (H a ≠ none → K.lookup a = none) →
      codeAny (model P w) callerA (.call (.ref fa) ⟨[.ref a], []⟩) (fun r s' => r = .ok (.ret (.bool true)) ∧ OldK s₁.heap s'.heap ∧ s'.os = s₁.os ∧ AllBare s'.gens) s₁ := by
    intro H hO hS hok hA hK
    have base_of : ∀ {b : Addr} {o : Obj}, s₁.heap.get? b = some o → H b = none → (hidT s₁.heap H).get? b = some o := fun e n => hidT_get e n
    have noA : ∀ {b : Addr} {o : Obj} {es : Array DictEntry} {ep : Nat}, s₁.heap.get? b = some o → o.data = .dict es ep → H b = none := fun {b o es ep} e d => by
      cases q : H b with
      | none => rfl
      | some u =>
        have e' : b = a := hA b (by rw [q]; simp)
        subst e'
        rw [ha] at e; cases e
        have d' : Data.seq vs.toArray _ = Data.dict es ep := d
        cases d'
    have nsK : ∀ {b : Addr} {m : Str → Option Value}, s₁.heap.Ns b m → (hidT s₁.heap H).Ns b m := fun {b m} ⟨o, es, ep, e, d, r⟩ => ⟨o, es, ep, base_of e (noA e d), d, r⟩
    have hKb : K.In (hidT s₁.heap H) := fun b o e => base_of (KX b o e) (by
      cases q : H b with
      | none => rfl
      | some u =>
        have e' : b = a := hA b (by rw [q]; simp)
        subst e'
        rw [hK (by rw [q]; simp)] at e; cases e)
    have hM : Mod K mg (hidT s₁.heap H) := ⟨hKb, nsK hns, ⟨mb, nsK hb, hbb⟩, let ⟨mc, h1, h2⟩ := hlim; ⟨mc, nsK h1, h2⟩⟩
    have e0 : Env0 P w K mg (hidT s₁.heap H) callerA [] s₁ H := ⟨rfl, hM, fun b o e => of_hidT e, Nat.le_of_eq (hidT_size _ _), trivial, fun b hb => absurd (show b ∈ ([] : List Addr) from hb) (by simp), hok, .of_eq hg⟩
    refine codeAny_mono ((F _ hKb (nsK hns)).run callerA [] s₁ H ⟨[.ref a], []⟩ [.ref a] [.ref a] _ _ rfl hr e0 (hbind s₁ (.ref a)) (.cons rfl .nil) (hsp H hO hS)) fun r s' h => ?_
    cases r with
    | error e => exact (hCX H e s' h).elim
    | ok fl =>
      cases fl with
      | next => exact False.elim h
      | brk => exact False.elim h
      | cont => exact False.elim h
      | ret u =>
        obtain ⟨v, H', os, bare, un, hok', r', q⟩ := h
        have q' : v = .bl true := q
        subst q'
        obtain rfl : u = Value.bool true := r'
        refine ⟨rfl, OldK.of_keep fun b o e => ?_, os, bare⟩
        cases q : H b with
        | none => exact un.keep b o e q (by intro z; exact absurd (show b ∈ ([] : List Addr) from z) (by simp)) (by simp)
        | some u =>
          rcases hO b with z | ⟨ob, xs, z⟩
          · rw [q] at z; cases z
          · have z2 := un.frzs b ob _ z
            obtain ⟨e1, _⟩ := hok b _ z
            obtain ⟨e2, _⟩ := hok' b _ z2
            rw [e] at e1; cases e1
            exact e2
  cases hk : K.lookup a with
  | some o =>
    have e := KX a o hk
    rw [ha] at e
    cases e
    refine core (fun _ => none) (fun _ => .inl rfl) (.inr ⟨_, vs.toArray, _, hk, rfl, rfl, rfl, by rw [List.size_toArray, lenV]; exact hl, by simpa using rv⟩) (fun b u z => by have z' : (none : Option HO) = some u := z; cases z') (fun b z => absurd rfl z) fun z => absurd rfl z
  | none =>
    refine core (fun b => if b = a then some (.frz { cls := .type "list", data := .seq vs.toArray } (.lst (ns.map V.int))) else none) (fun b => ?_) (.inl (.inr ⟨{ cls := .type "list", data := .seq vs.toArray }, if_pos rfl⟩)) (fun b u z => ?_) (fun b z => ?_) fun _ => hk
    · by_cases hb : b = a
      · exact .inr ⟨_, _, if_pos hb⟩
      · exact .inl (if_neg hb)
    · by_cases hb : b = a
      · have z' := (if_pos hb).symm.trans z
        cases z'
        subst hb
        exact ⟨ha, by rw [List.length_map]; exact hl, vs, _, rv, ha⟩
      · have z' := (if_neg hb).symm.trans z
        cases z'
    · by_cases hb : b = a
      · exact hb
      · exact absurd (if_neg hb) z
theorem walk_ofG {l : PySem.W.OpenLaw} {n k : Nat} {q : Program} {loose : List Str} {XP : (Str → Option Value) → Heap → Prop} {YP : World → Heap → Prop} {d : DefRec} {K : Params → PySem.W.Frag} {CX : World → CXT} {sp : World → Sp} {x : Str}
    (hn : l.most = some n) (hn2 : n ≤ sizeLine) (hdf : d.params.defaults = []) (hr : Room k callerA)
    (hY : ∀ (w : World) (h : Heap), YP w h → (K w.params).In h)
    (F : ∀ (w : World) (mg : Str → Option Value) (fa : Addr) (h : Heap), (K w.params).In h → h.Ns mainGlobals mg → mg d.name = some (.ref fa) →
      ∃ fd : FuncData, (∀ (s : Shared) (u : Value), BindsTo s fd ⟨[u], []⟩ [(x, u)]) ∧
        ∀ base : Heap, (K w.params).In base → base.Ns mainGlobals mg → FnG l.prog w (K w.params) mg base (CX w) k fa fd [x] (sp w))
    (hsp : ∀ (w : World) (H : Hp) (a : Addr) (ns : List Int), ns.length ≤ n → Only H → SqL (K w.params) H a (ns.map V.int) → sp w [.ref a] H (fun v _ => v = .bl true) fun _ _ _ => False)
    (hCX : ∀ (w : World) (H : Hp) (s : Shared) (e : Value) (s' : Shared), CX w [] H s (fun _ _ _ => False) e s' → False) :
    PySem.W.WalkO q loose XP YP l.row.toRowW d [] (fun f vs => PySem.call f vs) := by
  refine Att.attach_call hn hdf fun w s₀ s₁ mg mb fa o pm cd doc a vs ns G Y ho hd hcd hmg hobj hints hlen hg => ?_
  have KX := hY w _ Y
  obtain ⟨fd, hb, hF⟩ := F w mg fa _ KX G.T.g hmg
  exact law_callG KX G.T.g G.T.b G.T.builtins G.T.nolimit hg hobj hints (Nat.le_trans hlen hn2) hr hF hb (fun H hO hS => hsp w H a ns hlen hO hS) fun H e s' => hCX w H s₁ e s'
end Way

/-! dicts whose keys are tuples of ints, texts and tuples of ints and texts -/
namespace Way
open PySem PySem.Spec PyProof.Rows L2
/-- an item of such a key -/
inductive KI where
  | f (k : Key)
  | t (ks : List Key)
  deriving DecidableEq
def keyD : Key → PyData
  | .inl i => .int i
  | .inr x => .str x
def kiD : KI → PyData
  | .f k => keyD k
  | .t ks => .tuple (ks.map keyD)
def nkD (ks : List KI) : PyData := .tuple (ks.map kiD)
theorem keyD_eqv (a b : Key) : PyData.eqv (keyD a) (keyD b) = decide (a = b) := by
  cases a with
  | inl i =>
    cases b with
    | inl j => rw [key_ll]; simp only [keyD, PyData.eqv]
    | inr y => rw [key_lr]; simp only [keyD, PyData.eqv]
  | inr x =>
    cases b with
    | inl j => rw [key_rl]; simp only [keyD, PyData.eqv]
    | inr y =>
      rw [key_rr]
      simp only [keyD, PyData.eqv]
      by_cases h : x = y
      · subst h; simp
      · rw [decide_eq_false h]; exact beq_eq_false_iff_ne.mpr h
theorem keysD_eqv : ∀ (a b : List Key), PyData.eqvAll (a.map keyD) (b.map keyD) = decide (a = b)
  | [], [] => by simp [PyData.eqvAll]
  | [], _ :: _ => by simp [PyData.eqvAll]
  | _ :: _, [] => by simp [PyData.eqvAll]
  | x :: a, y :: b => by
    rw [List.map_cons, List.map_cons, PyData.eqvAll, keyD_eqv, keysD_eqv a b]
    by_cases h1 : x = y <;> by_cases h2 : a = b <;> simp [h1, h2]
theorem kiD_eqv (a b : KI) : PyData.eqv (kiD a) (kiD b) = decide (a = b) := by
  cases a with
  | f k =>
    cases b with
    | f j =>
      show PyData.eqv (keyD k) (keyD j) = _
      rw [keyD_eqv]
      by_cases h : k = j
      · subst h; simp
      · rw [decide_eq_false h, decide_eq_false (fun q => h (KI.f.inj q))]
    | t ls =>
      rw [decide_eq_false (fun q => nomatch q)]
      cases k <;> simp only [kiD, keyD, PyData.eqv]
  | t ks =>
    cases b with
    | f j =>
      rw [decide_eq_false (fun q => nomatch q)]
      cases j <;> simp only [kiD, keyD, PyData.eqv]
    | t ls =>
      simp only [kiD, PyData.eqv, keysD_eqv]
      by_cases h : ks = ls
      · subst h; simp
      · rw [decide_eq_false h, decide_eq_false (fun q => h (KI.t.inj q))]
theorem kisD_eqv : ∀ (a b : List KI), PyData.eqvAll (a.map kiD) (b.map kiD) = decide (a = b)
  | [], [] => by simp [PyData.eqvAll]
  | [], _ :: _ => by simp [PyData.eqvAll]
  | _ :: _, [] => by simp [PyData.eqvAll]
  | x :: a, y :: b => by
    rw [List.map_cons, List.map_cons, PyData.eqvAll, kiD_eqv, kisD_eqv a b]
    by_cases h1 : x = y <;> by_cases h2 : a = b <;> simp [h1, h2]
theorem nkD_eqv (a b : List KI) : PyData.eqv (nkD a) (nkD b) = decide (a = b) := by
  unfold nkD
  rw [PyData.eqv, kisD_eqv]
theorem keysD_depth : ∀ ks : List Key, PyData.depthAll (ks.map keyD) = 0
  | [] => by simp [PyData.depthAll]
  | k :: r => by
    rw [List.map_cons, PyData.depthAll, keysD_depth r]
    cases k <;> simp [keyD, PyData.depth]
theorem kisD_depth : ∀ ks : List KI, PyData.depthAll (ks.map kiD) ≤ 1
  | [] => by simp [PyData.depthAll]
  | k :: r => by
    have ih := kisD_depth r
    rw [List.map_cons, PyData.depthAll]
    have h1 : PyData.depth (kiD k) ≤ 1 := by
      cases k with
      | f k => cases k <;> simp [kiD, keyD, PyData.depth]
      | t ks => simp only [kiD, PyData.depth, keysD_depth]; omega
    omega
theorem nkD_depth (ks : List KI) : (nkD ks).depth ≤ 2 := by
  have := kisD_depth ks
  unfold nkD
  rw [PyData.depth]
  omega
section
variable (prog : Program) (w : World)
def ItemN (h : Heap) : KI → Value → Prop
  | .f k, v => keyIs k v = true
  | .t ks, v => ∃ b, v = .ref b ∧ IsTupleKey (mixKind prog w) h ks b
def IsNk (h : Heap) (ks : List KI) (a : Addr) : Prop := (nkD ks).canLay0 = true ∧ ∃ o items n, h.get? a = some o ∧ o.cls = .type "tuple" ∧ o.data = .seq items n ∧ Paired (ItemN prog w h) ks items.toList
def kiH : KI → Int
  | .f k => keyH w k
  | .t ks => tupleKeyHash (mixKind prog w) ks
def kiDr : KI → Nat
  | .f _ => 1
  | .t ks => ks.length + 1
def nkHash (ks : List KI) : Int := reduceHash (Builtin.Tuple.tupleHashOf (ks.map (kiH prog w)))
end
section
variable {prog : Program} {w : World}
theorem ItemN.inj {h : Heap} {x y : KI} {v : Value} (hx : ItemN prog w h x v) (hy : ItemN prog w h y v) : x = y := by
  cases x with
  | f k =>
    cases y with
    | f j => exact congrArg KI.f ((mixKind prog w).inj v k j hx hy)
    | t ks =>
      obtain ⟨b, rfl, _⟩ := hy
      rcases keyIs_shape hx with ⟨_, _, _, e⟩ | ⟨_, _, _, e⟩ <;> cases e
  | t ks =>
    obtain ⟨b, rfl, hb⟩ := hx
    cases y with
    | f j => rcases keyIs_shape (show keyIs j (.ref b) = true from hy) with ⟨_, _, _, e⟩ | ⟨_, _, _, e⟩ <;> cases e
    | t ls =>
      obtain ⟨c, e, hc⟩ := hy
      cases e
      rw [hb.inj hc]
theorem pair_inj {h : Heap} : ∀ {x y : List KI} {vs : List Value}, Paired (ItemN prog w h) x vs → Paired (ItemN prog w h) y vs → x = y
  | _, _, _, .nil, .nil => rfl
  | _, _, _, .cons a r, .cons b t => by rw [ItemN.inj a b, pair_inj r t]
theorem IsNk.inj {h : Heap} {a : Addr} {x y : List KI} (hx : IsNk prog w h x a) (hy : IsNk prog w h y a) : x = y := by
  obtain ⟨_, o, items, n, ho, _, hd, hi⟩ := hx
  obtain ⟨_, o', items', n', ho', _, hd', hi'⟩ := hy
  obtain rfl : o = o' := Option.some.inj (ho.symm.trans ho')
  rw [hd] at hd'
  injection hd' with h1 _
  subst h1
  exact pair_inj hi hi'
theorem IsNk.keeps {h h' : Heap} {ks : List KI} {a d : Addr} {o : Obj} {es ep} (x : IsNk prog w h ks a) (ho : h.get? d = some o) (hd : o.data = .dict es ep) (hs : Heap.SameBut d h h') : IsNk prog w h' ks a := by
  obtain ⟨hl, o', items, n, ho', hc, hd', hi⟩ := x
  have hne : a ≠ d := by
    rintro rfl
    obtain rfl : o' = o := Option.some.inj (ho'.symm.trans ho)
    rw [hd] at hd'; exact nomatch hd'
  refine ⟨hl, o', items, n, (hs.2 a hne).trans ho', hc, hd', Paired.mapP hi fun k v q => ?_⟩
  cases k with
  | f k => exact q
  | t ks =>
    obtain ⟨b, e, hb⟩ := q
    exact ⟨b, e, hb.keeps ho hd hs⟩
theorem IsNk.typeIs {s : Shared} {ks : List KI} {a : Addr} (x : IsNk prog w s.heap ks a) : s.TypeIs (.ref a) "tuple" := let ⟨_, o, _, _, ho, hc, _⟩ := x; ⟨o, ho, hc⟩
theorem items_reads {h : Heap} : ∀ {ks : List Key} {vs : List Value}, ItemsAre (mixKind prog w) ks vs → ∃ as, ReadsAll h vs (ks.map keyD) as
  | _, _, .nil => ⟨_, ReadsAll.nil⟩
  | _, _, .cons (k := k) (v := v) a r => by
    obtain ⟨as, q⟩ := items_reads (h := h) r
    rcases keyIs_shape (show keyIs k v = true from a) with ⟨i, t, e1, e2⟩ | ⟨x, t, e1, e2⟩
    · subst e1 e2
      exact ⟨_, ReadsAll.cons (Reads.int i t) q⟩
    · subst e1 e2
      exact ⟨_, ReadsAll.cons (Reads.str x t) q⟩
theorem nitems_reads {h : Heap} : ∀ {ks : List KI} {vs : List Value}, Paired (ItemN prog w h) ks vs → ∃ as, ReadsAll h vs (ks.map kiD) as
  | _, _, .nil => ⟨_, ReadsAll.nil⟩
  | .f k :: _, v :: _, .cons a r => by
    obtain ⟨as, q⟩ := nitems_reads r
    rcases keyIs_shape (show keyIs k v = true from a) with ⟨i, t, e1, e2⟩ | ⟨x, t, e1, e2⟩
    · subst e1 e2
      exact ⟨_, ReadsAll.cons (Reads.int i t) q⟩
    · subst e1 e2
      exact ⟨_, ReadsAll.cons (Reads.str x t) q⟩
  | .t ks :: _, v :: _, .cons a r => by
    obtain ⟨as, q⟩ := nitems_reads r
    obtain ⟨b, rfl, o, items, n, ho, hc, hd, hi⟩ := a
    obtain ⟨bs, q2⟩ := items_reads (h := h) hi
    exact ⟨_, ReadsAll.cons (Reads.tuple ho hc hd q2) q⟩
theorem IsNk.reads {h : Heap} {ks : List KI} {a : Addr} (x : IsNk prog w h ks a) : ∃ as, Reads h (.ref a) (nkD ks) as := by
  obtain ⟨_, o, items, n, ho, hc, hd, hi⟩ := x
  obtain ⟨as, q⟩ := nitems_reads hi
  exact ⟨_, Reads.tuple ho hc hd q⟩
variable {A : Around} {E : Value → Shared → Prop} {s : Shared}
theorem nk_eqBool {x y : List KI} {a b : Addr} {Q : Bool → Shared → Prop} (hu : A.units + 64 < cLine) (hx : IsNk prog w s.heap x a) (hy : IsNk prog w s.heap y b) (h : Q (decide (x = y)) s) : wpAny (model prog w) A (eqBool (.ref a) (.ref b)) Q E s := by
  obtain ⟨as, rx⟩ := hx.reads
  obtain ⟨bs, ry⟩ := hy.reads
  have d1 := nkD_depth x
  have q := SeqAt.eqAt_reads (nkD x) (nkD y) A s _ _ as bs rx ry hx.1 hy.1 (by omega) prog w E Q
  rw [nkD_eqv] at q
  exact q h
theorem nk_pyHash {ks : List KI} {a : Addr} {Q : Int → Shared → Prop} (hu : A.units + 64 < cLine) (hk : IsNk prog w s.heap ks a) (h : Q (nkHash prog w ks) { s with toks := s.toks + ((ks.map kiDr).sum + 1) }) :
    wpAny (model prog w) A (pyHash (.ref a)) Q E s := by
  have hT := hk.typeIs
  obtain ⟨_, o, items, n, ho, _, hd, hi⟩ := hk
  unfold pyHash
  first | unfold pyHashByItsType | skip
  first | refine wpAny_bind (wpAny_cRoomFor_or (.inr (by omega)) ?_) | skip
  refine wpAny_bind (wpAny_specialOf hT F.slot_tuple_hash.lookup ?_)
  show wpAny _ _ (if (some (Value.builtin "tuple.__hash__") == some Value.none) = true then _ else _) Q E s
  rw [if_neg (by rw [beq_builtin_none]; exact Bool.false_ne_true)]
  refine wpAny_bind (wpAny_specialOf hT F.slot_tuple_hash.lookup ?_)
  show wpAny _ _ (callSpecialIfBoundUnlessNone? (.ref a) "__hash__" _ >>= _) Q E s
  refine wpAny_bind (wpAny_callSpecialIfBoundUnlessNone?_slot hT F.slot_tuple_hash (wpAny_call_entry F.slot_tuple_hash hT F.entry_tuple_hash ?_ (F.args_tuple_hash_1 _)))
  show wpAny _ _ (Builtin.Tuple.tupleItemsOf (.ref a) >>= _) _ _ s
  refine wpAny_bind (wpAny_tupleItemsOf ho hd ?_)
  refine wpAny_bind ?_
  rw [← Array.forIn_toList]
  refine wpAny_forIn_list _
    (fun rest (b : Array Int) s' => ∃ done left, ks = done ++ left ∧ Paired (ItemN prog w s.heap) left rest ∧ b.toList = done.map (kiH prog w) ∧ s' = { s with toks := s.toks + (done.map kiDr).sum })
    _ ?_ ?_ _ _ ⟨[], ks, rfl, hi, rfl, rfl⟩
  · rintro x rest b s' ⟨done, left, rfl, hl, hb, rfl⟩
    cases hl with
    | @cons k _ ks' _ h1 hl' =>
      have fin : ∀ hs : Int, hs = kiH prog w k → ∃ done' left', done ++ k :: ks' = done' ++ left' ∧ Paired (ItemN prog w s.heap) left' rest ∧ (b.push hs).toList = done'.map (kiH prog w) ∧ ({ s with toks := s.toks + (done.map kiDr).sum + kiDr k } : Shared) = { s with toks := s.toks + (done'.map kiDr).sum } := fun hs e =>
        ⟨done ++ [k], ks', by simp, hl', by simp [hb, e], by simp [Nat.add_assoc]⟩
      cases k with
      | f k =>
        refine wpAny_bind ((mixKind prog w).pyHash (k := k) h1 ?_)
        first
          | exact wpAny_pure (fin _ rfl)
          | exact wpAny_bind (wpAny_pure (wpAny_pure (fin _ rfl)))
      | t ls =>
        obtain ⟨c, rfl, hc⟩ := h1
        refine wpAny_bind (wpAny_pyHash_tuple (knd := mixKind prog w) (ks := ls) (by show A.units + 1 < cLine; omega) hc ?_)
        first
          | exact wpAny_pure (fin _ rfl)
          | exact wpAny_bind (wpAny_pure (wpAny_pure (fin _ rfl)))
  · rintro b s' ⟨done, left, rfl, hl, hb, rfl⟩
    cases hl
    rw [List.append_nil] at h
    show wpAny _ _ (retInt (Builtin.Tuple.tupleHashOf b.toList)) _ _ _
    rw [hb]
    refine wpAny_ret_mkInt ?_
    show wpAny _ _ (if (decide (-(2 : Int) ^ 63 ≤ Builtin.Tuple.tupleHashOf (done.map (kiH prog w))) && decide (Builtin.Tuple.tupleHashOf (done.map (kiH prog w)) < 2 ^ 63)) = true then _ else _) Q E _
    unfold nkHash reduceHash at h
    by_cases hr : (decide (-(2 : Int) ^ 63 ≤ Builtin.Tuple.tupleHashOf (done.map (kiH prog w))) && decide (Builtin.Tuple.tupleHashOf (done.map (kiH prog w)) < 2 ^ 63)) = true
    · rw [if_pos hr]
      rw [if_pos hr] at h
      exact wpAny_pure (by simpa [Nat.add_assoc] using h)
    · rw [if_neg hr]
      rw [if_neg hr] at h
      exact wpAny_bind (wpAny_rule (wpAny_pure (by simpa [Nat.add_assoc] using h)))
theorem quiet7 {ks : List Key} {a : Addr} {Q : Bool → Shared → Prop} (hk : IsTupleKey (mixKind prog w) s.heap ks a) (h : Q true s) : wpAny (model prog w) A (eqIsQuiet 7 (.ref a)) Q E s := by
  have hT := hk.typeIs
  obtain ⟨o, items, n, ho, _, hd, hi⟩ := hk
  unfold eqIsQuiet
  refine wpAny_bind (wpAny_specialOf hT F.slot_tuple_eq.lookup ?_)
  show wpAny _ _ (isInstance (.ref a) (.type "tuple") >>= _) _ _ s
  refine wpAny_bind (wpAny_isInstance hT isSubtype_tuple_tuple ?_)
  simp only [Bool.not_true, Bool.false_eq_true, if_false]
  refine wpAny_bind (wpAny_seqItems ho hd ?_)
  refine wpAny_bind ?_
  show wpAny _ _ (forIn items _ _) _ _ s
  rw [← Array.forIn_toList]
  refine wpAny_forIn_list _ (fun rest r s' => r.1 = none ∧ s' = s ∧ ∀ v ∈ rest, carriedByValue v = true) _ ?_ ?_ _ _ ⟨rfl, rfl, hi.byValue⟩
  · rintro v rest r s' ⟨hr, rfl, hall⟩
    rw [eqIsQuiet_byValue _ (hall v List.mem_cons_self)]
    refine wpAny_bind (wpAny_pure ?_)
    simp only [Bool.not_true, Bool.false_eq_true, if_false]
    exact wpAny_pure ⟨rfl, rfl, fun u hu' => hall u (List.mem_cons_of_mem _ hu')⟩
  · rintro ⟨r1, r2⟩ s' ⟨hr, rfl, _⟩
    simp only at hr
    subst hr
    exact wpAny_pure h
theorem nk_quiet {ks : List KI} {a : Addr} {Q : Bool → Shared → Prop} (hk : IsNk prog w s.heap ks a) (h : Q true s) : wpAny (model prog w) A (eqIsQuiet 8 (.ref a)) Q E s := by
  have hT := hk.typeIs
  obtain ⟨_, o, items, n, ho, _, hd, hi⟩ := hk
  unfold eqIsQuiet
  refine wpAny_bind (wpAny_specialOf hT F.slot_tuple_eq.lookup ?_)
  show wpAny _ _ (isInstance (.ref a) (.type "tuple") >>= _) _ _ s
  refine wpAny_bind (wpAny_isInstance hT isSubtype_tuple_tuple ?_)
  simp only [Bool.not_true, Bool.false_eq_true, if_false]
  refine wpAny_bind (wpAny_seqItems ho hd ?_)
  refine wpAny_bind ?_
  show wpAny _ _ (forIn items _ _) _ _ s
  rw [← Array.forIn_toList]
  refine wpAny_forIn_list _ (fun rest r s' => r.1 = none ∧ s' = s ∧ ∃ left, Paired (ItemN prog w s.heap) left rest) _ ?_ ?_ _ _ ⟨rfl, rfl, ks, hi⟩
  · rintro v rest r s' ⟨hr, rfl, left, hl⟩
    cases hl with
    | @cons k _ ks' _ h1 hl' =>
      cases k with
      | f k =>
        rw [eqIsQuiet_byValue _ ((mixKind prog w).byValue k v h1)]
        refine wpAny_bind (wpAny_pure ?_)
        simp only [Bool.not_true, Bool.false_eq_true, if_false]
        exact wpAny_pure ⟨rfl, rfl, ks', hl'⟩
      | t ls =>
        obtain ⟨c, rfl, hc⟩ := h1
        refine wpAny_bind (quiet7 hc ?_)
        simp only [Bool.not_true, Bool.false_eq_true, if_false]
        exact wpAny_pure ⟨rfl, rfl, ks', hl'⟩
  · rintro ⟨r1, r2⟩ s' ⟨hr, rfl, _⟩
    simp only at hr
    subst hr
    exact wpAny_pure h
end
def nkKind (prog : Program) (w : World) : HeapKind prog w (List KI) where
  is := IsNk prog w
  hash := nkHash prog w
  draws := fun ks => (ks.map kiDr).sum + 1
  room := fun A => A.units + 64 < cLine
  inj := fun hx hy => hx.inj hy
  keeps := fun x ho hd hs => x.keeps ho hd hs
  pyHash := fun hu hk h => nk_pyHash hu hk h
  eqBool := fun hu hx hy h => nk_eqBool hu hx hy h
  quiet := fun hk h => nk_quiet hk h
end Way

/-! a dict with such keys as an object of the abstract heap, and what is asked of it -/
namespace Way
open PySem PySem.Spec PyProof.Rows L2
abbrev NdX := List (List KI × Addr × V)
def NdR : NdX → List (List KI × Addr × Value) → Prop := Paired fun p q => p.1 = q.1 ∧ p.2.1 = q.2.1 ∧ RelV p.2.2 q.2.2
def NdO (P : Program) (w : World) (d : Addr) (xs : NdX) : HO := .ext fun h => (d == sysModules) = false ∧ xs.length ≤ sizeLine ∧ (xs.map (·.1)).Nodup ∧
  ∃ vs, NdR xs vs ∧ ∃ o es ep, h.get? d = some o ∧ o.ExactDict ∧ o.data = .dict es ep ∧ es.toList = vs.map (entryOfKey (nkKind P w))
/-- the key ks stands as a tuple at a -/
def KiV (H : Hp) : KI → V → Prop
  | .f k, v => v = kV k
  | .t ks, v => ∃ b, v = .ref b ∧ H b = some (.tup (ks.map kV))
def KeyAt (H : Hp) (ks : List KI) (a : Addr) : Prop := (nkD ks).canLay0 = true ∧ ∃ items, H a = some (.tup items) ∧ Paired (KiV H) ks items
def AllK (H : Hp) (xs : NdX) : Prop := ∀ x ∈ xs, KeyAt H x.1 x.2.1
theorem KiV.mono {H H' : Hp} (e : Same H H') : ∀ {k : KI} {v : V}, KiV H k v → KiV H' k v
  | .f _, _, h => h
  | .t _, _, ⟨b, h1, h2⟩ => ⟨b, h1, e _ _ h2⟩
theorem KeyAt.mono {H H' : Hp} {ks : List KI} {a : Addr} (e : Same H H') (h : KeyAt H ks a) : KeyAt H' ks a :=
  let ⟨l, items, h1, h2⟩ := h; ⟨l, items, e _ _ h1, Paired.mapP h2 fun _ _ q => q.mono e⟩
theorem AllK.mono {H H' : Hp} {xs : NdX} (e : Same H H') (h : AllK H xs) : AllK H' xs := fun x hx => (h x hx).mono e
def lookN (xs : NdX) (ks : List KI) : Option V := (xs.find? fun x => decide (x.1 = ks)).map (·.2.2)
def hasN (xs : NdX) (ks : List KI) : Bool := (lookN xs ks).isSome
section
variable {P : Program} {w : World} {H : Hp} {h : Heap}
theorem key_items {ks : List Key} : ∀ {vs : List Value}, Vals (ks.map kV) vs → ItemsAre (mixKind P w) ks vs := by
  induction ks with
  | nil => intro vs r; cases r; exact .nil
  | cons k r ih =>
    intro vs rv
    cases rv with
    | cons a t => exact .cons (kV_is a) (ih t)
theorem tup_key {ks : List Key} {b : Addr} (hok : HOk P w H h) (e : H b = some (.tup (ks.map kV))) : IsTupleKey (mixKind P w) h ks b := by
  obtain ⟨_, its, r, o, h1, h2, n, h3⟩ := hok b _ e
  exact ⟨o, its.toArray, n, h1, h2, h3, by simpa using key_items r⟩
theorem nk_items (hok : HOk P w H h) : ∀ {ks : List KI} {items : List V} {vs : List Value}, Paired (KiV H) ks items → Vals items vs → Paired (ItemN P w h) ks vs
  | _, _, _, .nil, .nil => .nil
  | .f k :: _, _, _, .cons a r, .cons b t => by
    have a' := a
    cases (show _ = kV k from a)
    exact .cons (show (mixKind P w).is k _ = true from kV_is b) (nk_items hok r t)
  | .t ks :: _, _, _, .cons a r, .cons b t => by
    obtain ⟨c, rfl, hc⟩ := a
    exact .cons ⟨c, b, tup_key hok hc⟩ (nk_items hok r t)
theorem KeyAt.is {ks : List KI} {a : Addr} (hok : HOk P w H h) (x : KeyAt H ks a) : IsNk P w h ks a := by
  obtain ⟨l, items, e, p⟩ := x
  obtain ⟨_, its, r, o, h1, h2, n, h3⟩ := hok a _ e
  exact ⟨l, o, its.toArray, n, h1, h2, h3, by simpa using nk_items hok p r⟩
theorem ndR_keys : ∀ {xs : NdX} {vs : List (List KI × Addr × Value)}, NdR xs vs → xs.map (·.1) = vs.map (·.1)
  | _, _, .nil => rfl
  | _, _, .cons a r => by rw [List.map_cons, List.map_cons, a.1, ndR_keys r]
theorem ndR_mem : ∀ {xs : NdX} {vs : List (List KI × Addr × Value)}, NdR xs vs → ∀ v ∈ vs, ∃ x ∈ xs, x.1 = v.1 ∧ x.2.1 = v.2.1
  | _, _, .nil, v, hv => nomatch hv
  | _, _, .cons a r, v, hv => by
    rcases List.mem_cons.mp hv with rfl | hv
    · exact ⟨_, List.mem_cons_self .., a.1, a.2.1⟩
    · obtain ⟨x, hx, q⟩ := ndR_mem r v hv
      exact ⟨x, List.mem_cons_of_mem _ hx, q⟩
theorem ndR_look {ks : List KI} : ∀ {xs : NdX} {vs : List (List KI × Addr × Value)}, NdR xs vs → RelO (lookN xs ks) ((atKey vs ks).map (·.2))
  | _, _, .nil => trivial
  | x :: xs, v :: vs, .cons a r => by
    have ih := ndR_look (ks := ks) r
    unfold lookN atKey
    rw [List.find?_cons, List.find?_cons, ← a.1]
    by_cases e : x.1 = ks
    · rw [decide_eq_true e]
      exact a.2.2
    · rw [decide_eq_false e]
      exact ih
theorem nd_of {d : Addr} {xs : NdX} (hok : HOk P w H h) (e : H d = some (NdO P w d xs)) (hk : AllK H xs) : (d == sysModules) = false ∧ xs.length ≤ sizeLine ∧ ∃ vs, NdR xs vs ∧ h.DictOfH (nkKind P w) d vs := by
  obtain ⟨⟨h1, h2, h3, vs, r, o, es, ep, h4, h5, h6, h7⟩, _⟩ := hok d _ e
  refine ⟨h1, h2, vs, r, o, es, ep, h4, h5, h6, h7, fun v hv => ?_, ndR_keys r ▸ h3⟩
  obtain ⟨x, hx, e1, e2⟩ := ndR_mem r v hv
  rw [← e1, ← e2]
  exact (hk x hx).is hok
theorem nd_ok {d : Addr} {xs : NdX} {vs : List (List KI × Addr × Value)} (h1 : (d == sysModules) = false) (h2 : xs.length ≤ sizeLine) (r : NdR xs vs) (dd : h.DictOfH (nkKind P w) d vs) : ObjOk P w H h d (NdO P w d xs) := by
  obtain ⟨o, es, ep, h4, h5, h6, h7, h8, h9⟩ := dd
  refine ⟨⟨h1, h2, (ndR_keys r).symm ▸ h9, vs, r, o, es, ep, h4, h5, h6, h7⟩, ⟨o, h4⟩, ?_⟩
  rintro g1 g2 ⟨a1, a2, a3, ws, b1, o', es', ep', c1, c2⟩ k
  exact ⟨a1, a2, a3, ws, b1, o', es', ep', k _ c1, c2⟩
end
/-! the lookup of None -/
section
variable {prog : Program} {w : World} {A : Around} {E : Value → Shared → Prop} {s : Shared}
theorem none_hash {Q : Int → Shared → Prop} (h : Q (reduceHash 0xFCA86420) { s with toks := s.toks + 1 }) : wpAny (model prog w) A (pyHash .none) Q E s :=
  (L2.noneKind prog w).pyHash (k := none) (v := .none) rfl h
theorem nk_none_eq {ks : List KI} {a : Addr} {Q : Bool → Shared → Prop} (hu : A.units + 64 < cLine) (hx : IsNk prog w s.heap ks a) (h : Q false s) : wpAny (model prog w) A (eqBool (.ref a) .none) Q E s := by
  obtain ⟨as, rx⟩ := hx.reads
  have d1 := nkD_depth ks
  have d2 : A.units + min (nkD ks).depth PyData.none.depth < cLine := by omega
  have q := SeqAt.eqAt_reads (nkD ks) .none A s _ _ as [] rx Reads.none hx.1 (by simp only [PyData.canLay0]) d2 prog w E Q
  have e : PyData.eqv (nkD ks) .none = false := by unfold nkD; simp only [PyData.eqv]
  rw [e] at q
  exact q h
theorem tell_none {stored : List Value} {Q : Bool → Shared → Prop} (hst : ∀ v ∈ stored, ∃ k' b, v = .ref b ∧ IsNk prog w s.heap k' b) (h : Q false s) : wpAny (model prog w) A (tableMayTell .none stored) Q E s := by
  unfold tableMayTell
  split
  · exact wpAny_pure h
  · refine wpAny_bind (wpAny_of_eq (a := true) (eqIsQuiet_byValue _ rfl) ?_)
    simp only [Bool.not_true, Bool.false_eq_true, if_false]
    refine wpAny_bind ?_
    refine wpAny_forIn_list _ (fun rest r s' => s' = s ∧ r = (none, ()) ∧ ∀ v ∈ rest, ∃ k' b, v = .ref b ∧ IsNk prog w s.heap k' b) _ ?_ ?_ _ _ ⟨rfl, rfl, hst⟩
    · rintro x rest r s' ⟨rfl, rfl, hr⟩
      obtain ⟨k', b, rfl, hb⟩ := hr x List.mem_cons_self
      refine wpAny_bind (nk_quiet hb ?_)
      simp only [Bool.not_true, Bool.false_eq_true, if_false]
      exact wpAny_pure ⟨rfl, rfl, fun v hv => hr v (List.mem_cons_of_mem _ hv)⟩
    · rintro r s' ⟨rfl, rfl, _⟩
      exact wpAny_pure h
theorem find_none {d : Addr} {vs : List (List KI × Addr × Value)} {hh : Int} {Q : Option Nat → Shared → Prop} (hu : A.units + 64 < cLine) (hm : s.heap.DictOfH (nkKind prog w) d vs) (h : Q none s) : wpAny (model prog w) A (dictFind d .none hh) Q E s := by
  obtain ⟨o, es, ep, ho, _, hd, he, his, hn⟩ := hm
  have hsz : es.size = vs.length := size_of_entries he
  have hmem : ∀ e ∈ es, ∃ x ∈ vs, e = entryOfKey (nkKind prog w) x := by
    intro e hin
    have : e ∈ vs.map (entryOfKey (nkKind prog w)) := he ▸ Array.mem_toList_iff.mpr hin
    obtain ⟨x, hx, rfl⟩ := List.mem_map.mp this
    exact ⟨x, hx, rfl⟩
  have hst : ∀ v ∈ (placesWithHash es.size (fun i => es[i]?.map (·.hash)) hh).filterMap (fun i => es[i]?.map (·.key)), ∃ k' b, v = .ref b ∧ IsNk prog w s.heap k' b := by
    intro v hv
    obtain ⟨i, _, hi⟩ := List.mem_filterMap.mp hv
    cases hei : es[i]? with
    | none => rw [hei] at hi; cases hi
    | some e =>
      rw [hei] at hi
      obtain rfl : e.key = v := by simpa using hi
      obtain ⟨x, hx, rfl⟩ := hmem e (Array.mem_of_getElem? hei)
      exact ⟨x.1, x.2.1, rfl, his x hx⟩
  have turn : ∀ {e : DictEntry}, e ∈ es → ∃ k' b, e.key = .ref b ∧ IsNk prog w s.heap k' b := by
    intro e hin
    obtain ⟨x, hx, rfl⟩ := hmem e hin
    exact ⟨x.1, x.2.1, rfl, his x hx⟩
  unfold dictFind
  try with_reducible refine wpAny_holding ?_
  refine wpAny_bind (wpAny_dictEntries ho hd ?_)
  dsimp only
  by_cases hall : ((Value.none :: (placesWithHash es.size (fun i => es[i]?.map (·.hash)) hh).filterMap (fun i => es[i]?.map (·.key))).all carriedByValue) = true
  · rw [if_pos hall]
    unfold dictWalkPlain
    refine wpAny_bind ?_
    refine wpAny_forIn_list _ (fun rest r s' => s' = s ∧ r = (none, ())) _ ?_ ?_ _ _ ⟨rfl, rfl⟩
    · rintro x rest r s' ⟨rfl, rfl⟩
      cases hei : es[x]? with
      | none => exact wpAny_pure ⟨rfl, rfl⟩
      | some e =>
        obtain ⟨k', b, ek, hb⟩ := turn (Array.mem_of_getElem? hei)
        dsimp only
        by_cases hq : (e.hash == hh) = true
        · rw [if_pos hq, ek]
          refine wpAny_bind (wpAny_dictEpoch ho hd (wpAny_bind (nk_none_eq hu hb (wpAny_bind (wpAny_dictEpoch ho hd ?_)))))
          show wpAny _ _ (if (ep != ep) = true then _ else _) _ E _
          rw [if_neg (by simp)]
          simp only [Bool.false_eq_true, if_false]
          first
            | exact wpAny_bind (wpAny_rule (wpAny_pure ⟨rfl, rfl⟩))
            | exact wpAny_bind (wpAny_pure (wpAny_bind (wpAny_rule (wpAny_pure ⟨rfl, rfl⟩))))
        · rw [if_neg hq]
          exact wpAny_pure ⟨rfl, rfl⟩
    · rintro r s' ⟨rfl, rfl⟩
      exact wpAny_pure h
  · rw [if_neg hall]
    by_cases hone : (((placesWithHash es.size (fun i => es[i]?.map (·.hash)) hh).filterMap (fun i => es[i]?.map (·.key))) == [Value.none]) = true
    · exfalso
      have e := beq_iff_eq.mp hone
      obtain ⟨k', b, z, _⟩ := hst Value.none (by rw [e]; exact List.mem_singleton.mpr rfl)
      cases z
    · rw [if_neg hone]
      refine wpAny_bind (tell_none hst ?_)
      rw [if_neg (by simp)]
      refine wpAny_bind ?_
      refine wpAny_forIn_list _ (fun rest r s' => s' = s ∧ r = (none, none)) _ ?_ ?_ _ _ ⟨rfl, rfl⟩
      · rintro x rest r s' ⟨rfl, rfl⟩
        cases hei : es[x]? with
        | none => exact wpAny_pure ⟨rfl, rfl⟩
        | some e =>
          obtain ⟨k', b, ek, hb⟩ := turn (Array.mem_of_getElem? hei)
          dsimp only
          by_cases hq : (e.hash == hh) = true
          · rw [if_pos hq, ek]
            refine wpAny_bind (wpAny_dictEpoch ho hd (wpAny_bind (nk_none_eq hu hb (wpAny_bind (wpAny_dictEpoch ho hd ?_)))))
            show wpAny _ _ (if (ep != ep) = true then _ else _) _ E _
            rw [if_neg (by simp)]
            simp only [Bool.false_eq_true, if_false]
            refine wpAny_bind (wpAny_rule ?_)
            first | rw [if_neg (by simp)] | skip
            first
              | exact wpAny_pure ⟨rfl, rfl⟩
              | exact wpAny_bind (wpAny_pure (wpAny_pure ⟨rfl, rfl⟩))
          · rw [if_neg hq]
            exact wpAny_pure ⟨rfl, rfl⟩
      · rintro r s' ⟨rfl, rfl⟩
        exact wpAny_pure h
end
end Way

/-! the rules over such dicts -/
namespace Way
open PySem PySem.Spec PyProof.Rows L2
section
variable {X : Cx} {pos : Pos}
def tDNewN (P : Program) (w : World) : TE := fun _ H Q => ∀ p, H p = none → Q (.ref p) (upd H p (NdO P w p []))
theorem nd_empty {P : Program} {w : World} {H : Hp} {h : Heap} (hb : (h.objs.size == sysModules) = false) : ObjOk P w H (h.push { cls := .type "dict", data := .dict #[] }) h.objs.size (NdO P w h.objs.size []) :=
  nd_ok hb (Nat.zero_le _) .nil (Heap.DictOfH.new h)
theorem pe_dnewN : PE X (.Dict [] [] pos) (tDNewN X.prog X.w) := ⟨fun pins s σ H Q I h =>
  wpAny_Dict_empty ⟨.ref s.heap.objs.size, _, I.laid (a := s.heap.objs.size) (o := NdO X.prog X.w s.heap.objs.size []) (t' := s.toks) (fun _ _ q => Heap.get?_push_of_some _ q) (Nat.le_refl _) (nd_empty (beq_eq_false_iff_ne.mpr (Ne.symm (Nat.ne_of_lt I.big)))), rfl, h _ (I.hok.fresh (Nat.le_refl _))⟩⟩
/-- what is asked by a key that may be None -/
def NdKey (H : Hp) (x : V) (k : Option (List KI)) : Prop := match k with
  | none => x = .non
  | some ks => ∃ a, x = .ref a ∧ KeyAt H ks a
def lookO (xs : NdX) (k : Option (List KI)) : Option V := k.bind (lookN xs)
theorem relO_some {o : Option V} {u : Option Value} (r : RelO o u) : u.isSome = o.isSome := by
  cases o <;> cases u <;> first | rfl | exact r.elim
theorem nd_dictGet {pins : List (Addr × Obj)} {σ : L2.St} {H : Hp} {s : Shared} {A : Around} {E : Value → Shared → Prop} {d : Addr} {xs : NdX} {x : V} {v : Value} {k : Option (List KI)} {Q : Option Value → Shared → Prop} (hu : A.units + 64 < cLine) (I : Inv X pins σ H s)
    (e : H d = some (NdO X.prog X.w d xs)) (hk : AllK H xs) (hx : NdKey H x k) (rx : RelV x v) (h : ∀ o tk, RelO (lookO xs k) o → Q o { s with toks := tk }) : wpAny (model X.prog X.w) A (dictGet d v) Q E s := by
  obtain ⟨h1, h2, vs, r, dd⟩ := nd_of I.hok e hk
  cases k with
  | none =>
    cases (show x = .non from hx)
    cases (show v = .none from rx)
    unfold dictGet
    try with_reducible refine wpAny_holding ?_
    refine wpAny_bind (none_hash (wpAny_bind (find_none (s := { s with toks := s.toks + 1 }) hu dd ?_)))
    exact wpAny_pure (h none _ trivial)
  | some ks =>
    obtain ⟨a, rfl, ka⟩ := hx
    cases (show v = .ref a from rx)
    exact wpAny_dictGet_heap (knd := nkKind X.prog X.w) hu (ka.is I.hok) dd (h _ _ (ndR_look r))
def rInN (P : Program) (w : World) (neg : Bool) : R2 := fun x y H Q => ∃ d xs k, y = .ref d ∧ H d = some (NdO P w d xs) ∧ AllK H xs ∧ NdKey H x k ∧ Q (.bl (if neg then !(lookO xs k).isSome else (lookO xs k).isSome)) H
theorem nd_contains {pins : List (Addr × Obj)} {σ : L2.St} {H : Hp} {s : Shared} {A : Around} {E : Value → Shared → Prop} {d : Addr} {xs : NdX} {x : V} {v : Value} {k : Option (List KI)} {Q : Bool → Shared → Prop} (hu : A.units + 65 < cLine) (I : Inv X pins σ H s)
    (e : H d = some (NdO X.prog X.w d xs)) (hk : AllK H xs) (hx : NdKey H x k) (rx : RelV x v) (h : ∀ tk, Q (lookO xs k).isSome { s with toks := tk }) : wpAny (model X.prog X.w) A (contains (.ref d) v) Q E s := by
  obtain ⟨h1, h2, vs, r, dd⟩ := nd_of I.hok e hk
  unfold contains
  try with_reducible refine wpAny_holding ?_
  refine wpAny_bind (wpAny_specialOf dd.typeIs slot_dict_contains.lookup ?_)
  show wpAny _ _ (if (some (Value.builtin "dict.__contains__") == some Value.none) = true then _ else _) _ E s
  rw [if_neg (by rw [beq_builtin_none]; exact Bool.false_ne_true)]
  refine wpAny_bind (wpAny_callSpecialUnlessNone?_slot (name := Str.ofString "__contains__") dd.typeIs slot_dict_contains
    (wpAny_call_entry slot_dict_contains dd.typeIs entry_dict_contains ?_ (args_dict_contains _ _)))
  show wpAny _ _ (dictGet d v >>= _) _ _ s
  refine wpAny_bind (nd_dictGet (by show A.units + 1 + 64 < cLine; omega) I e hk hx rx fun o tk ro => ?_)
  have hq := h tk
  rw [← relO_some ro] at hq
  cases o with
  | some p =>
    show wpAny _ _ (ret (.bool true)) _ _ _
    exact wpAny_pure ⟨_, rfl, wpAny_truthy_bool hq⟩
  | none =>
    show wpAny _ _ (Builtin.Dict.pendingKey? d v >>= _) _ _ _
    exact wpAny_bind (wpAny_pendingKey_other h1 (wpAny_pure ⟨_, rfl, wpAny_truthy_bool hq⟩))
theorem op_inN (hu : X.A.units + 65 < cLine) : OpR X (compareOp .In) (rInN X.prog X.w false) := by
  intro pins s σ H x y v u Q I rx ry h
  obtain ⟨d, xs, k, rfl, e, hk, hx, q⟩ := h
  cases ry
  show wpAny _ _ (do return Value.bool (← contains (.ref d) v)) _ _ s
  exact wpAny_bind (nd_contains hu I e hk hx rx fun tk => wpAny_pure ⟨.bl (lookO xs k).isSome, H, I.tok tk, rfl, q⟩)
theorem op_notInN (hu : X.A.units + 65 < cLine) : OpR X (compareOp .NotIn) (rInN X.prog X.w true) := by
  intro pins s σ H x y v u Q I rx ry h
  obtain ⟨d, xs, k, rfl, e, hk, hx, q⟩ := h
  cases ry
  show wpAny _ _ (do return Value.bool (!(← contains (.ref d) v))) _ _ s
  exact wpAny_bind (nd_contains hu I e hk hx rx fun tk => wpAny_pure ⟨.bl (!(lookO xs k).isSome), H, I.tok tk, rfl, q⟩)
/-- d.get(k) -/
def tGetN (P : Program) (w : World) (td ty : TE) : TE := fun σ H Q => td σ H fun x H1 => ∃ d xs, x = .ref d ∧ H1 d = some (NdO P w d xs) ∧ ty σ H1 fun y H2 => ∃ k, H2 d = some (NdO P w d xs) ∧ AllK H2 xs ∧ NdKey H2 y k ∧ Q ((lookO xs k).getD .non) H2
theorem relO_getD {o : Option V} {u : Option Value} (r : RelO o u) : RelV (o.getD .non) (u.getD .none) := by
  cases o <;> cases u <;> first | rfl | exact r | exact r.elim
theorem nd_ty {pins : List (Addr × Obj)} {σ : L2.St} {H : Hp} {s : Shared} {d : Addr} {xs : NdX} (I : Inv X pins σ H s) (e : H d = some (NdO X.prog X.w d xs)) : s.TypeIs (.ref d) "dict" ∧ ∀ a, Value.ref d = .ref a → ∃ ob, s.heap.get? a = some ob ∧ ob.dict = none := by
  obtain ⟨⟨h1, h2, h3, vs, r, o, es, ep, h4, h5, h6, h7⟩, _⟩ := I.hok d _ e
  exact ⟨⟨o, h4, h5.1⟩, fun a q => by cases q; exact ⟨o, h4, h5.2.1⟩⟩
theorem pe_getN {o e : Expr} {td ty : TE} {apos cpos : Pos} (hu : X.A.units + 66 < cLine) (ho : PE X o td) (he : PE X e ty) (m : M1 X o "get" apos e cpos) : PE X (.Call (.Attribute o "get" apos) [e] [] cpos) (tGetN X.prog X.w td ty) := by
  refine ⟨fun pins s σ H Q I h => ?_⟩
  refine wpAny_Call_method m.base m.few m.line PySem.F.plainAttrs_dict PySem.F.slot_dict_get PySem.F.type_dict_get (thn (ho.run pins s σ H _ I h) fun u s1 ⟨x, H1, I1, rx, d, xs, ex, e1, q1⟩ => ?_)
  subst ex
  obtain rfl : u = Value.ref d := rx
  obtain ⟨t1, t2⟩ := nd_ty I1 e1
  refine ⟨t1, t2, ?_⟩
  rw [m.trees]
  refine Calls.callWith_builtin rfl (Calls.evalArgs_plain (Calls.spliced_cons (thn (he.run pins s1 σ H1 _ I1 q1) fun iv s2 ⟨y, H2, I2, ry, k, e2, hk, hx, q2⟩ => Calls.spliced_nil ?_)))
  obtain ⟨h1, h2, vs, r, dd⟩ := nd_of I2.hok e2 hk
  refine wpAny_call_entry PySem.F.slot_dict_get dd.typeIs PySem.F.entry_dict_get ?_ (PySem.F.args_dict_get_2 _ _)
  show wpAny _ _ (dictGet d iv >>= _) _ _ s2
  refine wpAny_bind (nd_dictGet (by show X.A.units + 1 + 64 < cLine; omega) I2 e2 hk hx ry fun o tk ro => ?_)
  have rv := relO_getD ro
  have fin : EP X pins σ Q (o.getD .none) { s2 with toks := tk } := ⟨_, H2, I2.tok tk, rv, q2⟩
  cases o with
  | some v => exact wpAny_pure ⟨v, rfl, fin⟩
  | none =>
    show wpAny _ _ (Builtin.Dict.missed d iv >>= _) _ _ _
    exact wpAny_bind (wpAny_missed_other h1 (wpAny_pure ⟨.none, rfl, fin⟩))
/-- d[k] = v, a key that is not there yet -/
def rSetN (P : Program) (w : World) : V → V → V → Hp → (Hp → Prop) → Prop := fun o i v H Q => ∃ d xs ks a, o = .ref d ∧ i = .ref a ∧ H d = some (NdO P w d xs) ∧ AllK H xs ∧ KeyAt H ks a ∧ lookN xs ks = none ∧ xs.length < sizeLine ∧ Q (upd H d (NdO P w d (xs ++ [(ks, a, v)])))
theorem ndR_app : ∀ {xs ys : NdX} {vs ws : List (List KI × Addr × Value)}, NdR xs vs → NdR ys ws → NdR (xs ++ ys) (vs ++ ws)
  | _, _, _, _, .nil, r => r
  | _, _, _, _, .cons a r, t => .cons a (ndR_app r t)
theorem set_nd (hu : X.A.units + 65 < cLine) : PSet X (rSetN X.prog X.w) := by
  intro pins s σ H o i v ov iv u Q I ro ri rv h
  obtain ⟨d, xs, ks, a, rfl, rfl, e, hk, ka, hn, hz, q⟩ := h
  cases ro
  cases ri
  obtain ⟨h1, h2, vs, r, dd⟩ := nd_of I.hok e hk
  have hl : xs.length = vs.length := Paired.length r
  have hno : atKey vs ks = none := by
    have := ndR_look (ks := ks) r
    rw [hn] at this
    cases hq : atKey vs ks with
    | none => rfl
    | some p => rw [hq] at this; exact this.elim
  refine wpAny_setItem_heap (knd := nkKind X.prog X.w) (by show X.A.units + 1 + 64 < cLine; omega) (ka.is I.hok) dd (fun h' dd' sb => ?_) (by omega)
  rw [storedH_new hno] at dd'
  refine ⟨_, I.write (x := d) (e := d) (t' := s.toks + _) (by rw [e]; trivial) (.inl rfl) (fun b ob hb ho => (sb.2 b hb).trans ho) ?_ (nd_ok h1 (by rw [List.length_append, List.length_singleton]; omega) (ndR_app r (.cons ⟨rfl, rfl, rv⟩ .nil)) dd'), q⟩
  obtain ⟨ob, _, _, ho, _⟩ := dd'
  exact ⟨ob, ho⟩
/-- len(d) -/
def rLenN (P : Program) (w : World) : List V → Hp → VK → Prop := fun vs H Q => ∃ d xs, vs = [.ref d] ∧ H d = some (NdO P w d xs) ∧ AllK H xs ∧ Q (.int ((xs.length : Nat) : Int)) H
theorem call_lenN : CallR X (.builtin "len") (rLenN X.prog X.w) := by
  intro pins s σ H xs us Q I r h
  obtain ⟨d, ys, rfl, e, hk, q⟩ := h
  obtain ⟨u, rfl, rx⟩ := vals1 r
  obtain rfl : u = .ref d := rx
  obtain ⟨h1, h2, vs, rr, dd⟩ := nd_of I.hok e hk
  have hl : ys.length = vs.length := Paired.length rr
  refine call_len_dictH h1 dd (by rw [← hl]; rw [sizeLine_eq] at h2; omega) ?_
  rw [← hl]
  exact ⟨.int ((ys.length : Nat) : Int), H, I.tok _, ⟨_, rfl⟩, q⟩
end
/-! list(d.items()) -/
section
open DT
variable {prog : Program} {w : World} {A : Around} {E : Value → Shared → Prop} {s : Shared} {r d : Addr} {es : Array DictEntry} {ep : Nat}
theorem initI {R : Result → Shared → Prop} (hh : A.handled = none) (hv : s.heap.IsItemsView r d) (hm : Raw s.heap d es ep) (S : Addr) (hSr : S ≠ r) (hSd : d ≠ S) (hS : s.heap.get? S = some { cls := .type "list", data := .seq #[] })
    (hR : ∀ h' tk acc c as, (∀ b o, b ≠ S → s.heap.get? b = some o → h'.get? b = some o) → h'.get? S = some { cls := .type "list", dict := none, data := .seq acc c, slots := #[] } → as.length = es.size → Made es S h' as →
      acc.toList = as.map Value.ref → R (.ok (.ret .none)) { s with heap := h', toks := tk }) (hn : es.size ≤ sizeLine) :
    wpAny (model prog w) A.in1 (Builtin.«list.__init__» ⟨[.ref S, .ref r], []⟩)
      (fun fin s' => match fin with | .done f => R (.ok f) s' | .again c' => c'.quiet = true ∧ codeAny (model prog w) A c' R s') (fun e s' => R (.error e) s') s := by
  show wpAny _ _ (do let old ← Builtin.List.listItems (.ref S); Builtin.List.listUpdate (.ref S) (fun _ => #[]); letGo old.toList.reverse; Builtin.List.listExtendWith (.ref S) (.ref r) .none) _ _ _
  refine wpAny_bind ?_
  unfold Builtin.List.listItems
  refine wpAny_bind (wpAny_seqItems hS rfl (wpAny_pure ?_))
  show wpAny _ _ (updateSeq S (fun _ => #[]) >>= fun _ => letGo (#[] : Array Value).toList.reverse >>= fun _ => Builtin.List.listExtendWith (.ref S) (.ref r) .none) _ _ _
  refine wpAny_bind (wpAny_updateSeq hS rfl ?_)
  have hS₂ := Heap.get?_update_self (Obj.mapSeq (fun _ => (#[] : Array Value))) hS rfl
  have oth : ∀ b o, b ≠ S → s.heap.get? b = some o → (s.heap.update S (Obj.mapSeq (fun _ => (#[] : Array Value)))).get? b = some o :=
    fun b o hb e => (Heap.get?_update_other _ _ (Ne.symm hb)).trans e
  refine wpAny_bind (wpAny_letGo ?_)
  refine extI hh (let ⟨o, ho, x⟩ := hv; ⟨o, oth r o hSr.symm ho, x⟩) (hm.at' fun o e => oth d o hSd e) S hSr hSd .none _ hS₂ (fun h' tk acc c as hk hS' hl hG hacc => ?_) hn
  exact hR h' tk acc c as (fun b o hb e => hk b o hb (oth b o hb e)) hS' hl (hG.low (Nat.le_of_lt (Heap.lt_size hS₂))) hacc
theorem call_listI {Q : Value → Shared → Prop} (hh : A.handled = none) (hv : s.heap.IsItemsView r d) (hm : Raw s.heap d es ep) (hn : es.size ≤ sizeLine)
    (hQ : ∀ h' tk acc c as, (∀ b o, s.heap.get? b = some o → h'.get? b = some o) → h'.get? s.heap.objs.size = some { cls := .type "list", dict := none, data := .seq acc c, slots := #[] } → as.length = es.size → Made es s.heap.objs.size h' as →
      acc.toList = as.map Value.ref → Q (.ref s.heap.objs.size) { s with heap := h', toks := tk }) :
    wpAny (model prog w) A (call (.type "list") [.ref r]) Q E s := by
  refine callType_codes (Q₁ := fun obj s₁ => obj = .ref s.heap.objs.size ∧ s₁ = { s with heap := s.heap.push { cls := .type "list", data := .seq #[] } }) PySem.F.called_list (PySem.F.typeCall_list_1 _) PySem.F.entry_list_init
    (code_list_new _ ⟨rfl, rfl⟩) fun obj s₁ h₁ => ?_
  obtain ⟨rfl, rfl⟩ := h₁
  have hS : (s.heap.push { cls := .type "list", data := .seq #[] }).get? s.heap.objs.size = some { cls := .type "list", data := .seq #[] } := Heap.get?_push_size _ rfl
  have hr : r < s.heap.objs.size := let ⟨_, ho, _⟩ := hv; Heap.lt_size ho
  have hd : d < s.heap.objs.size := hm.lt
  refine ⟨⟨_, hS, rfl⟩, PySem.F.args_list_init_2 _ _, initI (A := A.in1) hh (let ⟨o, ho, x⟩ := hv; ⟨o, Heap.get?_push_of_some _ ho, x⟩) (hm.push _) _ (Nat.ne_of_gt hr) (Nat.ne_of_lt hd) hS (fun h' tk acc c as hk hS' hl hG hacc => ?_) hn⟩
  exact ⟨rfl, hQ h' tk acc c as (fun b o e => hk b o (Nat.ne_of_lt (Heap.lt_size e)) (Heap.get?_push_of_some _ e)) hS' hl hG hacc⟩
end
def putN : Hp → List Addr → NdX → Hp
  | H, a :: as, x :: xs => putN (upd H a (.tup [.ref x.2.1, x.2.2])) as xs
  | H, _, _ => H
theorem putN_off {b : Addr} : ∀ (as : List Addr) (xs : NdX) (H : Hp), b ∉ as → putN H as xs b = H b
  | [], xs, H, _ => by cases xs <;> rfl
  | a :: as, [], H, _ => rfl
  | a :: as, x :: xs, H, h => by
    show putN (upd H a _) as xs b = H b
    rw [putN_off as xs _ (fun z => h (List.mem_cons_of_mem _ z)), upd_ne (fun z => h (by rw [z]; exact List.mem_cons_self ..))]
theorem putN_at : ∀ (as : List Addr) (xs : NdX) (H : Hp), as.length = xs.length → as.Nodup → Paired (fun (t : Addr) (p : List KI × Addr × V) => putN H as xs t = some (.tup [.ref p.2.1, p.2.2])) as xs
  | [], [], H, _, _ => .nil
  | [], _ :: _, H, h, _ => by cases h
  | _ :: _, [], H, h, _ => by cases h
  | a :: as, x :: xs, H, h, nd => by
    rw [List.nodup_cons] at nd
    refine .cons ?_ (putN_at as xs _ (Nat.succ.inj h) nd.2)
    show putN (upd H a _) as xs a = _
    rw [putN_off as xs _ nd.1, upd_same]
/-- list(e.items()): new pairs, in order -/
def tItemsN (P : Program) (w : World) (te : TE) : TE := fun σ H Q => te σ H fun x H1 => ∃ (d : Addr) (xs : NdX), x = .ref d ∧ H1 d = some (NdO P w d xs) ∧
  ∀ (H' : Hp) (p : Addr) (ts : List Addr), Same H1 H' → H1 p = none → (∀ t ∈ ts, H1 t = none) → H' p = some (.lst (ts.map V.ref)) → Paired (fun (t : Addr) (q : List KI × Addr × V) => H' t = some (.tup [.ref q.2.1, q.2.2])) ts xs → Q (.ref p) H'
section
open DT
variable {X : Cx} {e : Expr} {te : TE} {p apos cpos pos : Pos}
theorem itemsN_laid {pins : List (Addr × Obj)} {σ : L2.St} {H : Hp} {s : Shared} {h' : Heap} {tk : Nat} {xs : NdX} {vs : List (List KI × Addr × Value)} {es : Array DictEntry} {acc : Array Value} {c : Nat} {as : List Addr} (I : Inv X pins σ H s) (hz : xs.length ≤ sizeLine) (kv : NdR xs vs) (he : es.toList = vs.map (entryOfKey (nkKind X.prog X.w)))
    (hk : ∀ b o, s.heap.get? b = some o → h'.get? b = some o) (hS : h'.get? s.heap.objs.size = some { cls := .type "list", dict := none, data := .seq acc c, slots := #[] }) (hl : as.length = es.size) (hG : Made es s.heap.objs.size h' as) (hacc : acc.toList = as.map Value.ref) :
    ∃ H' : Hp, Same H H' ∧ H s.heap.objs.size = none ∧ (∀ t ∈ as, H t = none) ∧ H' s.heap.objs.size = some (.lst (as.map V.ref)) ∧ Paired (fun (t : Addr) (q : List KI × Addr × V) => H' t = some (.tup [.ref q.2.1, q.2.2])) as xs ∧ Inv X pins σ H' { s with heap := h', toks := tk } := by
  have lk : xs.length = vs.length := Paired.length kv
  have le : es.size = vs.length := size_of_entries he
  have hSn : s.heap.objs.size ∉ as := fun z => Nat.lt_irrefl _ (hG.above _ z)
  have nd : as.Nodup := List.Pairwise.imp (fun {a b} (h : a < b) => Nat.ne_of_lt h) hG.rise
  have new : ∀ t ∈ as, H t = none := fun t ht => I.hok.fresh (Nat.le_of_lt (hG.above t ht))
  have newS : H s.heap.objs.size = none := I.hok.fresh (Nat.le_refl _)
  have atP := putN_at as xs (upd H s.heap.objs.size (.lst (as.map V.ref))) (by omega) nd
  have off : ∀ b, b ∉ as → b ≠ s.heap.objs.size → putN (upd H s.heap.objs.size (.lst (as.map V.ref))) as xs b = H b := fun b h1 h2 => by rw [putN_off as xs _ h1, upd_ne h2]
  have low : ∀ b o, s.heap.get? b = some o → b ∉ as ∧ b ≠ s.heap.objs.size := fun b o e => ⟨fun z => absurd (Heap.lt_size e) (Nat.not_lt.mpr (Nat.le_of_lt (hG.above b z))), Nat.ne_of_lt (Heap.lt_size e)⟩
  have kp : ∀ b u, H b = some u → (putN (upd H s.heap.objs.size (.lst (as.map V.ref))) as xs) b = some u := fun b u e => by
    rw [off b (fun z => by rw [new b z] at e; cases e) (fun z => by rw [z, newS] at e; cases e)]
    exact e
  have eS : putN (upd H s.heap.objs.size (.lst (as.map V.ref))) as xs s.heap.objs.size = some (.lst (as.map V.ref)) := by rw [putN_off as xs _ hSn, upd_same]
  refine ⟨putN (upd H s.heap.objs.size (.lst (as.map V.ref))) as xs, kp, newS, new, eS, atP, ?_⟩
  refine I.call' (ch := []) rfl ⟨fun b o q _ _ _ => hk b o q, fun b o q _ _ _ => ⟨o.slots, hk b o q⟩, fun b o q n _ => ?_, fun b o q _ => ⟨o, hk b o q⟩, fun b ys q => kp b _ q, fun b o u q => kp b _ q, fun b ps q => ⟨#[], by rw [kp b _ q]; simp⟩⟩ (fun b u q => ?_) I.bare fun b z => by simp at z
  · obtain ⟨z1, z2⟩ := low b o q
    rw [off b z1 z2]
    exact n
  · by_cases hb : b ∈ as
    · obtain ⟨j, pk, e1, e2, e3⟩ := LiI.paired_ix atP hb
      rw [e3] at q
      cases q
      obtain ⟨en, f1, f3⟩ := hG.pairs j b e1
      obtain ⟨qv, g1, g2, g3, g4⟩ := LiI.paired_get kv e2
      have f1' : es.toList[j]? = some en := by simpa using f1
      rw [he, List.getElem?_map, g1] at f1'
      cases f1'
      have rk : RelV (V.ref pk.2.1) (Value.ref qv.2.1) := by rw [g3]; rfl
      exact ⟨by show 2 ≤ sizeLine; decide, [.ref qv.2.1, qv.2.2], .cons rk (.cons g4 .nil), ⟨_, f3, rfl, _, rfl⟩⟩
    · by_cases hb2 : b = s.heap.objs.size
      · rw [hb2] at q ⊢
        rw [eS] at q
        cases q
        refine ⟨by rw [List.length_map]; omega, acc.toList, c, by rw [hacc]; exact LiI.vals_refs as, ?_⟩
        rw [Array.toArray_toList]
        exact hS
      · rw [off b hb hb2] at q
        exact (I.hok b u q).stay (fun d v _ y => hk d v y) (fun d y => kp d _ y) fun d ys y => kp d _ y
theorem pe_itemsN (hc : X.calm = true) (he : PE X e te) (hg : Gl X "list") (hm : X.mg "list" = none) (hv : bootBuiltins "list" = some (.type "list")) (hbase : attributeBase e "items" X.env (eval e X.env) = eval e X.env := by rfl) (hline : (apos.endLine == cpos.line) = true := by rfl)
    (hs : starEach [.Call (.Attribute e "items" apos) [] [] cpos] X.env = (false, eval (.Call (.Attribute e "items" apos) [] [] cpos) X.env) :: starEach [] X.env := by rfl) :
    PE X (.Call (.Name "list" p) [.Call (.Attribute e "items" apos) [] [] cpos] [] pos) (tItemsN X.prog X.w te) := by
  refine ⟨fun pins s σ H Q I hq => ?_⟩
  refine wpAny_Call_Name_kw (ld_blt I hg hm hv ?_)
  refine PyProof.Rows.callWith_type1 ?_ hs rfl
  rw [hs]
  show wpAny _ _ (spliced ((false, eval (.Call (.Attribute e "items" apos) [] [] cpos) X.env) :: backTo pos (starEach [] X.env))) _ _ s
  refine Calls.spliced_cons ?_
  refine wpAny_Call_method (T := "dict") (id := "dict.items") hbase rfl hline F.plainAttrs_dict F.slot_dict_items F.type_dict_items (thn (he.run pins s σ H _ I hq) fun u s1 ⟨x, H1, I1, rx, d, xs, ex, hd, q⟩ => ?_)
  subst ex
  obtain rfl : u = Value.ref d := rx
  obtain ⟨t1, t2⟩ := nd_ty I1 hd
  obtain ⟨⟨hs0, hz, _, vs, kv, o, es, ep, h4, h5, h6, h7⟩, _⟩ := I1.hok d _ hd
  have raw : Raw s1.heap d es ep := ⟨o, h4, h5, h6⟩
  have lk : xs.length = vs.length := Paired.length kv
  have le : es.size = vs.length := size_of_entries h7
  have I2 : Inv X pins σ H1 { s1 with heap := s1.heap.push { cls := .type "dict_items", data := .fields #[.ref d] } } := I1.kept (t' := s1.toks) fun b ob q => Heap.get?_push_of_some _ q
  refine ⟨t1, t2, ?_⟩
  show wpAny _ _ (callWith cpos (.builtin "dict.items") [.ref d] [] []) _ X.xe s1
  refine Calls.callWith_builtin rfl (PySem.evalArgs_none (DT.callItems hs0 raw ?_))
  refine Calls.spliced_nil ?_
  refine call_listI (I1.ok.hd hc) ⟨_, Heap.get?_push_size _ rfl, rfl, rfl⟩ (raw.push _) (by omega) fun h' tk acc c as hk hS hl hG hacc => ?_
  obtain ⟨H', k1, k2, k3, k5, k6, J⟩ := itemsN_laid (tk := tk) I2 hz kv h7 hk hS hl hG hacc
  exact ⟨.ref _, H', J, rfl, q H' _ as k1 k2 k3 k5 k6⟩
end
end Way

/-! == and != of instances whose class has neither: by identity -/
namespace Way
open PySem PySem.Spec PyProof.Rows L2
section
variable {M : Model} {prog : Program} {w : World} {A : Around} {E : Value → Shared → Prop} {s : Shared} {K : PySem.W.Frag} {x y C : Addr} {ox oy : Obj} {od oe : Option Obj}
theorem inst_noTuple (I : PySem.W.InstAt s.heap x ox C od) : ox.cls ≠ .type "tuple" := by
  rw [I.cls]; intro e; cases e
theorem callEq_same {Q : Value → Shared → Prop} (X : K.In s.heap) (I : PySem.W.InstAt s.heap x ox C od) (hm : PySem.W.mroIn K C (.type "object") = some true) (hq : Q (.bool true) s) :
    wpAny (model prog w) A (call (.builtin "object.__eq__") [.ref x, .ref x]) Q E s :=
  wpAny_call (codeAny_call_builtin F.cmp_object.eq.plain F.cmpEntry_eq (PySem.W.check_slot F.cmpKind_eq F.cmpSplit_eq (I.type.andThen (PySem.W.looks_mroIn X hm)) (F.cmpArgs_eq _ _) (objEq_entry_same hq)))
theorem callEq_other {Q : Value → Shared → Prop} (X : K.In s.heap) (I : PySem.W.InstAt s.heap x ox C od) (J : PySem.W.InstAt s.heap y oy C oe) (hxy : x ≠ y) (hm : PySem.W.mroIn K C (.type "object") = some true) (hq : Q .notImplemented s) :
    wpAny (model prog w) A (call (.builtin "object.__eq__") [.ref x, .ref y]) Q E s :=
  wpAny_call (codeAny_call_builtin F.cmp_object.eq.plain F.cmpEntry_eq (PySem.W.check_slot F.cmpKind_eq F.cmpSplit_eq (I.type.andThen (PySem.W.looks_mroIn X hm)) (F.cmpArgs_eq _ _) (objEq_entry_other hxy I.at_ J.at_ (inst_noTuple I) hq)))
theorem neEntry_other {Q : PySem.Fin → Shared → Prop} (hu : A.units < cLine) (X : K.In s.heap) (I : PySem.W.InstAt s.heap x ox C od) (J : PySem.W.InstAt s.heap y oy C oe) (hxy : x ≠ y) (hm : PySem.W.mroIn K C (.type "object") = some true) (hs : PySem.W.findIn K (.ref C) "__eq__" = some (some (.builtin "object.__eq__")))
    (hq : Q (.done (.ret .notImplemented)) s) : wpAny (model prog w) A (Builtin.«object.__ne__» ⟨[.ref x, .ref y], []⟩) Q E s := by
  unfold Builtin.«object.__ne__»
  repeat (first
    | with_reducible refine wpAny_cRoomFor hu ?_
    | (refine wpAny_bind (m := callSpecialIfBound? (.ref x) (Str.ofString "__eq__") [.ref y]) (HN.ifBound_objEq X I hs (callEq_other X I J hxy hm ?_)))
    | wp_step)
  exact hq
theorem callNe_other {Q : Value → Shared → Prop} (hu : A.in1.units < cLine) (X : K.In s.heap) (I : PySem.W.InstAt s.heap x ox C od) (J : PySem.W.InstAt s.heap y oy C oe) (hxy : x ≠ y) (hm : PySem.W.mroIn K C (.type "object") = some true) (hs : PySem.W.findIn K (.ref C) "__eq__" = some (some (.builtin "object.__eq__"))) (hq : Q .notImplemented s) :
    wpAny (model prog w) A (call (.builtin "object.__ne__") [.ref x, .ref y]) Q E s :=
  wpAny_call (codeAny_call_builtin F.cmp_object.ne.plain F.cmpEntry_ne (PySem.W.check_slot F.cmpKind_ne F.cmpSplit_ne (I.type.andThen (PySem.W.looks_mroIn X hm)) (F.cmpArgs_ne _ _) (neEntry_other hu X I J hxy hm hs hq)))
theorem rc_eqSame {Q : Value → Shared → Prop} (hu : A.units < cLine) (X : K.In s.heap) (I : PySem.W.InstAt s.heap x ox C od) (hm : PySem.W.mroIn K C (.type "object") = some true) (hs : PySem.W.findIn K (.ref C) "__eq__" = some (some (.builtin "object.__eq__")))
    (h : Q (.bool true) s) : wpAny (model prog w) A (richCompare .Eq (.ref x) (.ref x)) Q E s := by
  have one : wpAny (model prog w) A (tryCompare (.ref x) "__eq__" (.ref x)) (fun r s' => r = some (.bool true) ∧ s' = s) E s := by
    unfold tryCompare
    exact wpAny_bind (HN.ifBound_objEq X I hs (callEq_same X I hm (wpAny_pure ⟨rfl, rfl⟩)))
  simp only [richCompare, cmpInfo_Eq, oneThing_ref]
  refine wpAny_holding (wpAny_bind (wpAny_cRoomFor hu ?_))
  refine wpAny_bind (I.type.here (wpAny_bind (I.type.here ?_)))
  rw [if_neg (by simp)]
  refine wpAny_bind (wpAny_pure ?_)
  simp only [Bool.false_eq_true, if_false]
  refine wpAny_bind (wpAny_mono one (fun r s' z => ?_) fun _ _ e => e)
  obtain ⟨rfl, rfl⟩ := z
  exact wpAny_pure h
theorem rc_neOther {Q : Value → Shared → Prop} (hu : A.units < cLine) (hu1 : A.in1.units < cLine) (X : K.In s.heap) (I : PySem.W.InstAt s.heap x ox C od) (J : PySem.W.InstAt s.heap y oy C oe) (hxy : x ≠ y) (hm : PySem.W.mroIn K C (.type "object") = some true) (hs : PySem.W.findIn K (.ref C) "__eq__" = some (some (.builtin "object.__eq__")))
    (hne : PySem.W.findIn K (.ref C) "__ne__" = some (some (.builtin "object.__ne__"))) (h : Q (.bool true) s) : wpAny (model prog w) A (richCompare .NotEq (.ref x) (.ref y)) Q E s := by
  have one : wpAny (model prog w) A (tryCompare (.ref x) "__ne__" (.ref y)) (fun r s' => r = none ∧ s' = s) E s := by
    unfold tryCompare
    exact wpAny_bind (ifBound_objNe X I hne (callNe_other hu1 X I J hxy hm hs (wpAny_pure ⟨rfl, rfl⟩)))
  have two : wpAny (model prog w) A (tryCompare (.ref y) "__ne__" (.ref x)) (fun r s' => r = none ∧ s' = s) E s := by
    unfold tryCompare
    exact wpAny_bind (ifBound_objNe X J hne (callNe_other hu1 X J I hxy.symm hm hs (wpAny_pure ⟨rfl, rfl⟩)))
  simp only [richCompare, cmpInfo_NotEq, oneThing_ref]
  refine wpAny_holding (wpAny_bind (wpAny_cRoomFor hu ?_))
  refine wpAny_bind (I.type.here (wpAny_bind (J.type.here ?_)))
  rw [if_neg (by simp)]
  refine wpAny_bind (wpAny_pure ?_)
  simp only [Bool.false_eq_true, if_false, Bool.not_false, if_true]
  refine wpAny_bind (m := tryCompare (.ref x) _ (.ref y)) (wpAny_mono one (fun r s1 z => ?_) fun _ _ e => e)
  obtain ⟨z1, z2⟩ := z
  subst z1
  subst z2
  refine wpAny_bind (m := tryCompare (.ref y) _ (.ref x)) (wpAny_mono two (fun r s2 z => ?_) fun _ _ e => e)
  obtain ⟨z1, z2⟩ := z
  subst z1
  subst z2
  exact wpAny_bind (wpAny_rule (wpAny_bind (wpAny_isSame_ref_other hxy I.at_ J.at_ (inst_noTuple I) (wpAny_pure h))))
end
section
variable {X : Cx} {k : Nat} {C : Addr}
structure ByIdent (K : PySem.W.Frag) (C : Addr) : Prop where
  mro : PySem.W.mroIn K C (.type "object") = some true
  eq : PySem.W.findIn K (.ref C) "__eq__" = some (some (.builtin "object.__eq__"))
  ne : PySem.W.findIn K (.ref C) "__ne__" = some (some (.builtin "object.__ne__"))
/-- o == o -/
def rEqI (C : Addr) : R2 := fun x y H Q => ∃ a dx fs, x = .ref a ∧ y = .ref a ∧ H a = some (.ins C dx fs) ∧ Q (.bl true) H
theorem op_eqI (B : ByIdent X.K C) (hr : Room k X.A) : OpR X (compareOp .Eq) (rEqI C) := by
  intro pins s σ H x y v u Q I rx ry h
  obtain ⟨a, dx, fs, rfl, rfl, ha, q⟩ := h
  cases rx
  cases ry
  obtain ⟨mA, J, _⟩ := ins_get I.hok ha
  obtain ⟨od, J, _⟩ := J.look
  show wpAny (model X.prog X.w) X.A (richCompare .Eq (.ref a) (.ref a)) (EP X pins σ Q) X.xe s
  exact rc_eqSame hr.units0 I.kIn J B.mro B.eq ⟨.bl true, H, I, rfl, q⟩
/-- o != p, two of one class -/
def rNeI (C : Addr) : R2 := fun x y H Q => ∃ a b dx fs dy gs, x = .ref a ∧ y = .ref b ∧ a ≠ b ∧ H a = some (.ins C dx fs) ∧ H b = some (.ins C dy gs) ∧ Q (.bl true) H
theorem op_neI (B : ByIdent X.K C) (hr : Room k X.A) : OpR X (compareOp .NotEq) (rNeI C) := by
  intro pins s σ H x y v u Q I rx ry h
  obtain ⟨a, b, dx, fs, dy, gs, rfl, rfl, hab, ha, hb, q⟩ := h
  cases rx
  cases ry
  obtain ⟨mA, J, _⟩ := ins_get I.hok ha
  obtain ⟨od, J, _⟩ := J.look
  obtain ⟨mB, J2, _⟩ := ins_get I.hok hb
  obtain ⟨oe, J2, _⟩ := J2.look
  show wpAny (model X.prog X.w) X.A (richCompare .NotEq (.ref a) (.ref b)) (EP X pins σ Q) X.xe s
  have hu1 : X.A.in1.units < cLine := by have := hr.un; show X.A.units + 1 < cLine; omega
  exact rc_neOther hr.units0 hu1 I.kIn J J2 hab B.mro B.eq B.ne ⟨.bl true, H, I, rfl, q⟩
end
end Way

/-! data whose showing fits -/
namespace Way
open PySem PySem.Spec PyProof.Rows L2
structure Shw (n m : Nat) (d : PyData) : Prop where
  sh : d.showable = true
  lv : d.leavesShort 300 = true
  wt : d.weight ≤ n
  dp : d.depth ≤ m
  nd : d.hasDict = false
structure ShwA (n m : Nat) (ds : List PyData) : Prop where
  sh : PyData.showableAll ds = true
  lv : PyData.leavesShortAll 300 ds = true
  wt : PyData.weightAll ds ≤ n
  dp : PyData.depthAll ds ≤ m
  nd : PyData.hasDictAll ds = false
theorem sw_nil {m : Nat} : ShwA 0 m [] := ⟨by simp [PyData.showableAll], by simp [PyData.leavesShortAll], by simp [PyData.weightAll], by simp [PyData.depthAll], by simp [PyData.hasDictAll]⟩
theorem sw_cons {a b m : Nat} {d : PyData} {ds : List PyData} (h : Shw a m d) (t : ShwA b m ds) : ShwA (a + 1 + b) m (d :: ds) :=
  ⟨by simp [PyData.showableAll, h.sh, t.sh], by simp [PyData.leavesShortAll, h.lv, t.lv], by have := h.wt; have := t.wt; simp only [PyData.weightAll]; omega, by have := h.dp; have := t.dp; simp only [PyData.depthAll]; omega, by simp [PyData.hasDictAll, h.nd, t.nd]⟩
theorem ShwA.le {a b m : Nat} {ds : List PyData} (h : ShwA a m ds) (e : a ≤ b) : ShwA b m ds := ⟨h.sh, h.lv, Nat.le_trans h.wt e, h.dp, h.nd⟩
theorem sw_all {a m : Nat} : ∀ {ds : List PyData}, (∀ d ∈ ds, Shw a m d) → ShwA ((a + 1) * ds.length) m ds
  | [], _ => sw_nil
  | d :: ds, h => (sw_cons (h d (List.mem_cons_self ..)) (sw_all fun x hx => h x (List.mem_cons_of_mem _ hx))).le (by rw [List.length_cons, Nat.mul_add]; omega)
theorem sw_tup {a m : Nat} {ds : List PyData} (h : ShwA a m ds) : Shw a (m + 1) (.tuple ds) :=
  ⟨by simp only [PyData.showable]; exact h.sh, by simp only [PyData.leavesShort]; exact h.lv, by simp only [PyData.weight]; exact h.wt, by simp only [PyData.depth]; have := h.dp; omega, by simp only [PyData.hasDict]; exact h.nd⟩
theorem sw_lst {a m : Nat} {ds : List PyData} (h : ShwA a m ds) : Shw a (m + 1) (.list ds) :=
  ⟨by simp only [PyData.showable]; exact h.sh, by simp only [PyData.leavesShort]; exact h.lv, by simp only [PyData.weight]; exact h.wt, by simp only [PyData.depth]; have := h.dp; omega, by simp only [PyData.hasDict]; exact h.nd⟩
theorem Shw.le {a b m k : Nat} {d : PyData} (h : Shw a m d) (e : a ≤ b) (f : m ≤ k) : Shw b k d := ⟨h.sh, h.lv, Nat.le_trans h.wt e, Nat.le_trans h.dp f, h.nd⟩
theorem sw_non {m : Nat} : Shw 0 m .none := ⟨by simp [PyData.showable], by simp [PyData.leavesShort], by simp [PyData.weight], by simp [PyData.depth], by simp [PyData.hasDict]⟩
theorem sw_int {i : Int} {m : Nat} (h : i.natAbs.log2 < 200) : Shw 200 m (.int i) := by
  refine ⟨by simp only [PyData.showable]; exact decide_eq_true (by omega), ?_, ?_, by simp only [PyData.depth]; omega, by simp only [PyData.hasDict]⟩
  · have := int_text_length_le (a := i) (k := 200) (by decide) h
    simp only [PyData.leavesShort, PyData.shown]
    refine decide_eq_true ?_
    rw [PySem.ofString_length]
    omega
  · simp only [PyData.weight]
    split <;> omega
theorem sw_str {x : Str} {m : Nat} (h : x.cps.toList.all (fun c => decide (c < 16 ^ 8)) = true) : Shw x.cps.size m (.str x) :=
  ⟨by simp only [PyData.showable], by simp only [PyData.leavesShort]; exact h, by simp only [PyData.weight]; omega, by simp only [PyData.depth]; omega, by simp only [PyData.hasDict]⟩
theorem Shw.fits {n m : Nat} {d : PyData} (h : Shw n m d) (e : n ≤ 50000) : d.shown.length ≤ sizeLine := by
  have h1 := PyData.shown_le 300 (by decide) d h.lv
  have h2 := h.wt
  have h3 : sizeLine = 16777216 := rfl
  rw [h3]
  have h4 : (300 + 2) * d.weight ≤ 302 * 50000 := Nat.mul_le_mul_left _ (by omega)
  omega
section
variable {X : Cx} {k : Nat}
/-- repr of None or of data at an address -/
def rReprO (K : PySem.W.Frag) : List V → Hp → VK → Prop := fun xs H Q => ∃ v d n m, xs = [v] ∧ (v = .non ∨ ∃ a, v = .ref a) ∧ Dp K H v d ∧ Shw n m d ∧ n ≤ 50000 ∧ m ≤ 60 ∧ Q (.str d.shown) H
theorem call_reprO (hgd : X.A.guards = some []) (hr : Room k X.A) : CallR X (.builtin "repr") (rReprO X.K) := by
  intro pins s σ H xs us Q I r h
  obtain ⟨v, d, n, m, rfl, hv, hd, hs, hn, hm, q⟩ := h
  rcases hv with rfl | ⟨a, rfl⟩
  · obtain ⟨u, rfl, rx⟩ := vals1 r
    cases rx
    cases hd
    refine P.repr_of_none ?_
    have q' : Q (.str "None") H := by simpa only [PyData.shown] using q
    exact ⟨.str "None", H, I.tok _, ⟨_, rfl⟩, q'⟩
  · exact call_reprD hgd hr pins s σ H _ us Q I r ⟨a, d, rfl, hd, hs.sh, Nat.le_trans hs.dp hm, hs.nd, hs.fits hn, q⟩
end
end Way

/-! the pen that a law draws from: a dict of six texts -/
namespace Way
open PySem PySem.Spec PyProof.Rows L2 Evl
section
variable {H : Hp} {σ : L2.St} {td ty te : TE} {D : Ends} {tz : TS}
theorem ev_dget {a : Addr} {y v : V} (h1 : Ev td σ H (.ref a)) (h2 : Ev ty σ H y) (g : ∀ H1, Ex H H1 → DGet H1 a y (some v)) : Ev (tDGet td ty) σ H v := fun H1 e Q q =>
  h1 H1 e _ fun H2 e2 => h2 H2 (e.trans e2) _ fun H3 e3 => ⟨a, v, rfl, g H3 ((e.trans e2).trans e3), q H3 (e2.trans e3)⟩
theorem ev_dgetK {a : Addr} {kvs : List (Key × V)} {k : Str} {v : V} (h1 : Ev td σ H (.ref a)) (h2 : Ev ty σ H (.str k)) (h : H a = some (.dK kvs)) (hv : valV kvs (.inr k) = some v) : Ev (tDGet td ty) σ H v :=
  ev_dget h1 h2 fun H1 e => hv ▸ DGet.k (k := .inr k) (e _ _ h)
theorem s_dput {a : Addr} {kvs : List (Key × V)} {k : Str} {v : V} (h : H a = some (.dK kvs)) (hv : Ev te σ H v) (h1 : Ev td σ H (.ref a)) (h2 : Ev ty σ H (.str k)) (hz : kvs.length < 100000) (q : ∀ H1, Ex H H1 → D.nx σ (upd H1 a (.dK (putK kvs (.inr k) v)))) :
    tAsg te (gSub td ty rSetD) D σ H := hv H (Ex.refl H) _ fun H1 e1 => h1 H1 e1 _ fun H2 e2 => h2 H2 (e1.trans e2) _ fun H3 e3 =>
  ⟨a, _, rfl, DPut.k (k := .inr k) (((e1.trans e2).trans e3) _ _ h) (sz_lt hz), q H3 ((e1.trans e2).trans e3)⟩
theorem q_dput {a : Addr} {kvs : List (Key × V)} {k : Str} {v : V} (h : H a = some (.dK kvs)) (hv : Ev te σ H v) (h1 : Ev td σ H (.ref a)) (h2 : Ev ty σ H (.str k)) (hz : kvs.length < 100000) (q : ∀ H1, Ex H H1 → tz D σ (upd H1 a (.dK (putK kvs (.inr k) v)))) :
    tSeq (tAsg te (gSub td ty rSetD)) tz D σ H := s_dput (D := { D with nx := tz D }) h hv h1 h2 hz q
end
def penK (c : Addr) (i r d m t : Int) : List (Key × V) := [(.inr "cells", .ref c), (.inr "at", .int i), (.inr "rest", .int r), (.inr "digits", .int d), (.inr "mix", .int m), (.inr "turn", .int t)]
theorem kne {x y : Str} (h : x ≠ y) : ¬ (Sum.inr x : Key) = Sum.inr y := fun e => h (Sum.inr.inj e)
section
variable {c : Addr} {i r d m t z : Int}
theorem pk_cells : valV (penK c i r d m t) (.inr "cells") = some (.ref c) := valV_pos rfl
theorem pk_at : valV (penK c i r d m t) (.inr "at") = some (.int i) := (valV_neg (kne (by decide +kernel))).trans (valV_pos rfl)
theorem pk_rest : valV (penK c i r d m t) (.inr "rest") = some (.int r) := (valV_neg (kne (by decide +kernel))).trans ((valV_neg (kne (by decide +kernel))).trans (valV_pos rfl))
theorem pk_digits : valV (penK c i r d m t) (.inr "digits") = some (.int d) := (valV_neg (kne (by decide +kernel))).trans ((valV_neg (kne (by decide +kernel))).trans ((valV_neg (kne (by decide +kernel))).trans (valV_pos rfl)))
theorem pk_mix : valV (penK c i r d m t) (.inr "mix") = some (.int m) := (valV_neg (kne (by decide +kernel))).trans ((valV_neg (kne (by decide +kernel))).trans ((valV_neg (kne (by decide +kernel))).trans ((valV_neg (kne (by decide +kernel))).trans (valV_pos rfl))))
theorem pk_turn : valV (penK c i r d m t) (.inr "turn") = some (.int t) := (valV_neg (kne (by decide +kernel))).trans ((valV_neg (kne (by decide +kernel))).trans ((valV_neg (kne (by decide +kernel))).trans ((valV_neg (kne (by decide +kernel))).trans ((valV_neg (kne (by decide +kernel))).trans (valV_pos rfl)))))
theorem kcons_ne {x y : Str} {v w : V} (h : x ≠ y) : (if (Sum.inr x : Key) = Sum.inr y then ((Sum.inr x : Key), w) else (Sum.inr x, v)) = (Sum.inr x, v) := if_neg (kne h)
theorem kcons_eq {x : Str} {v w : V} : (if (Sum.inr x : Key) = Sum.inr x then ((Sum.inr x : Key), w) else (Sum.inr x, v)) = (Sum.inr x, w) := if_pos rfl
theorem put_has {kvs : List (Key × V)} {k : Key} {v : V} (h : (valV kvs k).isSome = true) : putK kvs k v = kvs.map fun kv => if kv.1 = k then (kv.1, v) else kv := by
  unfold putK
  rw [if_pos (by rw [valV_any]; exact h)]
theorem pp_at : putK (penK c i r d m t) (.inr "at") (.int z) = penK c z r d m t := by
  rw [put_has (by rw [pk_at]; rfl)]
  unfold penK
  simp only [List.map_cons, List.map_nil]
  rw [kcons_ne (by decide +kernel), if_pos True.intro, kcons_ne (by decide +kernel), kcons_ne (by decide +kernel), kcons_ne (by decide +kernel), kcons_ne (by decide +kernel)]
theorem pp_rest : putK (penK c i r d m t) (.inr "rest") (.int z) = penK c i z d m t := by
  rw [put_has (by rw [pk_rest]; rfl)]
  unfold penK
  simp only [List.map_cons, List.map_nil]
  rw [kcons_ne (by decide +kernel), kcons_ne (by decide +kernel), if_pos True.intro, kcons_ne (by decide +kernel), kcons_ne (by decide +kernel), kcons_ne (by decide +kernel)]
theorem pp_digits : putK (penK c i r d m t) (.inr "digits") (.int z) = penK c i r z m t := by
  rw [put_has (by rw [pk_digits]; rfl)]
  unfold penK
  simp only [List.map_cons, List.map_nil]
  rw [kcons_ne (by decide +kernel), kcons_ne (by decide +kernel), kcons_ne (by decide +kernel), if_pos True.intro, kcons_ne (by decide +kernel), kcons_ne (by decide +kernel)]
theorem pp_mix : putK (penK c i r d m t) (.inr "mix") (.int z) = penK c i r d z t := by
  rw [put_has (by rw [pk_mix]; rfl)]
  unfold penK
  simp only [List.map_cons, List.map_nil]
  rw [kcons_ne (by decide +kernel), kcons_ne (by decide +kernel), kcons_ne (by decide +kernel), kcons_ne (by decide +kernel), if_pos True.intro, kcons_ne (by decide +kernel)]
theorem pp_turn : putK (penK c i r d m t) (.inr "turn") (.int z) = penK c i r d m z := by
  rw [put_has (by rw [pk_turn]; rfl)]
  unfold penK
  simp only [List.map_cons, List.map_nil]
  rw [kcons_ne (by decide +kernel), kcons_ne (by decide +kernel), kcons_ne (by decide +kernel), kcons_ne (by decide +kernel), kcons_ne (by decide +kernel), if_pos True.intro]
theorem pk_made : mergeK [] (penK c i r d m t) = penK c i r d m t := by
  have h : ∀ (a b : List (Key × V)) (p : Key × V), valV a p.1 = none → mergeK a (p :: b) = mergeK (a ++ [p]) b := fun a b p e => by
    show mergeK (putK a p.1 p.2) b = _
    rw [putK_new _ e]
  unfold penK
  rw [h _ _ _ valV_nil, h _ _ _ (by rw [List.nil_append, valV_neg (kne (by decide +kernel)), valV_nil]),
    h _ _ _ (by simp only [List.nil_append, List.cons_append]; rw [valV_neg (kne (by decide +kernel)), valV_neg (kne (by decide +kernel)), valV_nil]),
    h _ _ _ (by simp only [List.nil_append, List.cons_append]; rw [valV_neg (kne (by decide +kernel)), valV_neg (kne (by decide +kernel)), valV_neg (kne (by decide +kernel)), valV_nil]),
    h _ _ _ (by simp only [List.nil_append, List.cons_append]; rw [valV_neg (kne (by decide +kernel)), valV_neg (kne (by decide +kernel)), valV_neg (kne (by decide +kernel)), valV_neg (kne (by decide +kernel)), valV_nil]),
    h _ _ _ (by simp only [List.nil_append, List.cons_append]; rw [valV_neg (kne (by decide +kernel)), valV_neg (kne (by decide +kernel)), valV_neg (kne (by decide +kernel)), valV_neg (kne (by decide +kernel)), valV_neg (kne (by decide +kernel)), valV_nil])]
  rfl
end
/-- a pen at p over the cells at c, drawn from at most k times -/
def Pen (H : Hp) (p c : Addr) (k : Nat) : Prop := ∃ (cs : List Int) (i r d m t : Int), H p = some (.dK (penK c i r d m t)) ∧ H c = some (.lst (cs.map V.int)) ∧ 0 ≤ i ∧ 0 ≤ d ∧ d ≤ 50 ∧ 0 ≤ m ∧ m < 2147483648 ∧ 0 ≤ t ∧ t ≤ k
theorem Pen.le {H : Hp} {p c : Addr} {j k : Nat} (h : Pen H p c j) (e : j ≤ k) : Pen H p c k := let ⟨cs, i, r, d, m, t, h1, h2, a1, a2, a3, a4, a5, a6, a7⟩ := h; ⟨cs, i, r, d, m, t, h1, h2, a1, a2, a3, a4, a5, a6, by omega⟩
theorem Pen.mono {H H' : Hp} {p c : Addr} {k : Nat} (h : Pen H p c k) (e : Same H H') : Pen H' p c k := let ⟨cs, i, r, d, m, t, h1, h2, a⟩ := h; ⟨cs, i, r, d, m, t, e _ _ h1, e _ _ h2, a⟩
theorem Pen.kp {H H' : Hp} {s p c : Addr} {k : Nat} (h : Pen H p c k) (e : Kp s H H') (n1 : p ≠ s) (n2 : c ≠ s) : Pen H' p c k := let ⟨cs, i, r, d, m, t, h1, h2, a⟩ := h; ⟨cs, i, r, d, m, t, e _ _ n1 h1, e _ _ n2 h2, a⟩
theorem Pen.here {H : Hp} {p c : Addr} {k : Nat} (h : Pen H p c k) : ∃ kvs, H p = some (.dK kvs) := let ⟨_, _, _, _, _, _, h1, _⟩ := h; ⟨_, h1⟩
theorem Pen.cells {H : Hp} {p c : Addr} {k : Nat} (h : Pen H p c k) : ∃ cs : List Int, H c = some (.lst (cs.map V.int)) := let ⟨cs, _, _, _, _, _, _, h2, _⟩ := h; ⟨cs, h2⟩
theorem Pen.ne {H : Hp} {p c q : Addr} {k : Nat} (h : Pen H p c k) (e : H q = none) : q ≠ p := let ⟨o, ho⟩ := h.here; fun z => by rw [z, ho] at e; cases e
theorem Pen.neC {H : Hp} {p c q : Addr} {k : Nat} (h : Pen H p c k) (e : H q = none) : q ≠ c := let ⟨o, ho⟩ := h.cells; fun z => by rw [z, ho] at e; cases e
theorem Pen.upd {H : Hp} {p c q : Addr} {k : Nat} {o : HO} (h : Pen H p c k) (n1 : q ≠ p) (n2 : q ≠ c) : Pen (upd H q o) p c k := let ⟨cs, i, r, d, m, t, h1, h2, a⟩ := h; ⟨cs, i, r, d, m, t, (upd_ne n1.symm).trans h1, (upd_ne n2.symm).trans h2, a⟩
end Way

namespace K24
open PySem L2 Way Evl
def top (i : Nat) : Stmt := PySem.Challenge.pw_waypairs_k24_memos.main.body.getD i (.Pass ⟨0, 0, 0, 0⟩)
abbrev s_memo_key : Stmt := top 1
abbrev N_memo_key : List Str := ["rule", "thing", "kind", "marks"]
abbrev P_memo_key : List Str := ["rule", "thing", "kind", "marks"]
theorem sc_memo_key : FnScope N_memo_key P_memo_key (defScope s_memo_key) := ⟨rfl, rfl, rfl, by decide +kernel, rfl, by decide +kernel, by decide +kernel⟩
abbrev s_Memo_init : Stmt := inClass (top 2) 0
abbrev N_Memo_init : List Str := ["self", "number"]
abbrev P_Memo_init : List Str := ["self", "number"]
theorem sc_Memo_init : FnScope N_Memo_init P_Memo_init (defScope s_Memo_init) := ⟨rfl, rfl, rfl, by decide +kernel, rfl, by decide +kernel, by decide +kernel⟩
abbrev s_Memo_len : Stmt := inClass (top 2) 1
abbrev N_Memo_len : List Str := ["self"]
abbrev P_Memo_len : List Str := ["self"]
theorem sc_Memo_len : FnScope N_Memo_len P_Memo_len (defScope s_Memo_len) := ⟨rfl, rfl, rfl, by decide +kernel, rfl, by decide +kernel, by decide +kernel⟩
abbrev s_Memo_contains : Stmt := inClass (top 2) 2
abbrev N_Memo_contains : List Str := ["self", "key"]
abbrev P_Memo_contains : List Str := ["self", "key"]
theorem sc_Memo_contains : FnScope N_Memo_contains P_Memo_contains (defScope s_Memo_contains) := ⟨rfl, rfl, rfl, by decide +kernel, rfl, by decide +kernel, by decide +kernel⟩
abbrev s_Memo_known : Stmt := inClass (top 2) 3
abbrev N_Memo_known : List Str := ["self", "key"]
abbrev P_Memo_known : List Str := ["self", "key"]
theorem sc_Memo_known : FnScope N_Memo_known P_Memo_known (defScope s_Memo_known) := ⟨rfl, rfl, rfl, by decide +kernel, rfl, by decide +kernel, by decide +kernel⟩
abbrev s_Memo_keep : Stmt := inClass (top 2) 4
abbrev N_Memo_keep : List Str := ["self", "key", "new"]
abbrev P_Memo_keep : List Str := ["self", "key", "new"]
theorem sc_Memo_keep : FnScope N_Memo_keep P_Memo_keep (defScope s_Memo_keep) := ⟨rfl, rfl, rfl, by decide +kernel, rfl, by decide +kernel, by decide +kernel⟩
abbrev s_Memo_kept : Stmt := inClass (top 2) 5
abbrev N_Memo_kept : List Str := ["self"]
abbrev P_Memo_kept : List Str := ["self"]
theorem sc_Memo_kept : FnScope N_Memo_kept P_Memo_kept (defScope s_Memo_kept) := ⟨rfl, rfl, rfl, by decide +kernel, rfl, by decide +kernel, by decide +kernel⟩
abbrev s_pen : Stmt := top 4
abbrev N_pen : List Str := ["_law_script", "_law_total", "_law_cell"]
abbrev P_pen : List Str := ["_law_script"]
theorem sc_pen : FnScope N_pen P_pen (defScope s_pen) := ⟨rfl, rfl, rfl, by decide +kernel, rfl, by decide +kernel, by decide +kernel⟩
abbrev s_take : Stmt := top 5
abbrev N_take : List Str := ["_law_pen_here", "_law_bound", "_law_cell", "_law_mixed", "_law_digit"]
abbrev P_take : List Str := ["_law_pen_here", "_law_bound"]
theorem sc_take : FnScope N_take P_take (defScope s_take) := ⟨rfl, rfl, rfl, by decide +kernel, rfl, by decide +kernel, by decide +kernel⟩
abbrev s_number : Stmt := top 6
abbrev N_number : List Str := ["_law_pen_here", "_law_shift"]
abbrev P_number : List Str := ["_law_pen_here"]
theorem sc_number : FnScope N_number P_number (defScope s_number) := ⟨rfl, rfl, rfl, by decide +kernel, rfl, by decide +kernel, by decide +kernel⟩
abbrev s_token : Stmt := top 7
abbrev N_token : List Str := ["_law_pen_here", "_law_rule", "_law_thing", "_law_name", "_law_worths", "_law_handed", "_law_told", "_law_due", "_law_turn"]
abbrev P_token : List Str := ["_law_pen_here"]
theorem sc_token : FnScope N_token P_token (defScope s_token) := ⟨rfl, rfl, rfl, by decide +kernel, rfl, by decide +kernel, by decide +kernel⟩
abbrev s_found : Stmt := top 8
abbrev N_found : List Str := ["_law_pairs", "_law_token_here", "_law_pair"]
abbrev P_found : List Str := ["_law_pairs", "_law_token_here"]
theorem sc_found : FnScope N_found P_found (defScope s_found) := ⟨rfl, rfl, rfl, by decide +kernel, rfl, by decide +kernel, by decide +kernel⟩
abbrev s_right : Stmt := top 9
abbrev N_right : List Str := ["_law_memo", "_law_pairs", "_law_token_here", "_law_count", "_law_told", "_law_due", "_law_pair"]
abbrev P_right : List Str := ["_law_memo", "_law_pairs", "_law_token_here", "_law_count"]
theorem sc_right : FnScope N_right P_right (defScope s_right) := ⟨rfl, rfl, rfl, by decide +kernel, rfl, by decide +kernel, by decide +kernel⟩
abbrev s_law : Stmt := top 10
abbrev N_law : List Str := ["_law_script", "_law_pen_here", "_law_first", "_law_numbers", "_law_memos", "_law_known", "_law_turn", "_law_at", "_law_memo", "_law_pairs", "_law_right_here", "_law_token_here", "_law_new"]
abbrev P_law : List Str := ["_law_script"]
theorem sc_law : FnScope N_law P_law (defScope s_law) := ⟨rfl, rfl, rfl, by decide +kernel, rfl, by decide +kernel, by decide +kernel⟩
structure Txt (K : PySem.W.Frag) (mg : Str → Option Value) where
  f_memo_key : Addr
  d_memo_key : FuncData
  F_memo_key : Fun K "memo_key" "memo_key" s_memo_key f_memo_key d_memo_key
  B_memo_key : Binds K d_memo_key P_memo_key []
  g_memo_key : mg "memo_key" = some (.ref f_memo_key)
  f_Memo_init : Addr
  d_Memo_init : FuncData
  F_Memo_init : Fun K "__init__" "Memo.__init__" s_Memo_init f_Memo_init d_Memo_init
  B_Memo_init : Binds K d_Memo_init P_Memo_init []
  f_Memo_len : Addr
  d_Memo_len : FuncData
  F_Memo_len : Fun K "__len__" "Memo.__len__" s_Memo_len f_Memo_len d_Memo_len
  B_Memo_len : Binds K d_Memo_len P_Memo_len []
  f_Memo_contains : Addr
  d_Memo_contains : FuncData
  F_Memo_contains : Fun K "__contains__" "Memo.__contains__" s_Memo_contains f_Memo_contains d_Memo_contains
  B_Memo_contains : Binds K d_Memo_contains P_Memo_contains []
  f_Memo_known : Addr
  d_Memo_known : FuncData
  F_Memo_known : Fun K "known" "Memo.known" s_Memo_known f_Memo_known d_Memo_known
  B_Memo_known : Binds K d_Memo_known P_Memo_known []
  f_Memo_keep : Addr
  d_Memo_keep : FuncData
  F_Memo_keep : Fun K "keep" "Memo.keep" s_Memo_keep f_Memo_keep d_Memo_keep
  B_Memo_keep : Binds K d_Memo_keep P_Memo_keep []
  f_Memo_kept : Addr
  d_Memo_kept : FuncData
  F_Memo_kept : Fun K "kept" "Memo.kept" s_Memo_kept f_Memo_kept d_Memo_kept
  B_Memo_kept : Binds K d_Memo_kept P_Memo_kept []
  f_pen : Addr
  d_pen : FuncData
  F_pen : Fun K "_law_pen" "_law_pen" s_pen f_pen d_pen
  B_pen : Binds K d_pen P_pen []
  g_pen : mg "_law_pen" = some (.ref f_pen)
  f_take : Addr
  d_take : FuncData
  F_take : Fun K "_law_take" "_law_take" s_take f_take d_take
  B_take : Binds K d_take P_take []
  g_take : mg "_law_take" = some (.ref f_take)
  f_number : Addr
  d_number : FuncData
  F_number : Fun K "_law_number" "_law_number" s_number f_number d_number
  B_number : Binds K d_number P_number []
  g_number : mg "_law_number" = some (.ref f_number)
  f_token : Addr
  d_token : FuncData
  F_token : Fun K "_law_token" "_law_token" s_token f_token d_token
  B_token : Binds K d_token P_token []
  g_token : mg "_law_token" = some (.ref f_token)
  f_found : Addr
  d_found : FuncData
  F_found : Fun K "_law_found" "_law_found" s_found f_found d_found
  B_found : Binds K d_found P_found []
  g_found : mg "_law_found" = some (.ref f_found)
  f_right : Addr
  d_right : FuncData
  F_right : Fun K "_law_right" "_law_right" s_right f_right d_right
  B_right : Binds K d_right P_right []
  g_right : mg "_law_right" = some (.ref f_right)
  f_law : Addr
  d_law : FuncData
  F_law : Fun K "law" "law" s_law f_law d_law
  B_law : Binds K d_law P_law []
  g_law : mg "law" = some (.ref f_law)
  C_Memo : Addr
  g_Memo : mg "Memo" = some (.ref C_Memo)
  cl_Memo : Cls K C_Memo
  M_Memo : Mk K C_Memo f_Memo_init
  na_Memo_number : NoAttr K C_Memo "number"
  na_Memo_store : NoAttr K C_Memo "store"
  m_Memo_len : Meth K C_Memo "__len__" f_Memo_len
  m_Memo_contains : Meth K C_Memo "__contains__" f_Memo_contains
  m_Memo_known : Meth K C_Memo "known" f_Memo_known
  m_Memo_keep : Meth K C_Memo "keep" f_Memo_keep
  m_Memo_kept : Meth K C_Memo "kept" f_Memo_kept
  id_Memo : Way.ByIdent K C_Memo
  b_list : mg "list" = none
  b_range : mg "range" = none
  b_len : mg "len" = none
  b_int : mg "int" = none
  b_isinstance : mg "isinstance" = none
  b_bool : mg "bool" = none
  b_repr : mg "repr" = none
  b_tuple : mg "tuple" = none
theorem hu65 {A : Around} {k : Nat} (hr : Room k A) : A.units + 65 < cLine := by have := hr.un; omega
theorem hu66 {A : Around} {k : Nat} (hr : Room k A) : A.units + 66 < cLine := by have := hr.un; omega
/-! the pen -/
def spPen (K : PySem.W.Frag) : Sp := fun vs H Q _ => ∃ (a : Addr) (ns : List Int), vs = [.ref a] ∧ SqL K H a (ns.map V.int) ∧ ns.length ≤ 63 ∧ ∀ H' p c, Same H H' → H p = none → H c = none → Pen H' p c 0 → Q (.ref p) H'
def spTake : Sp := fun vs H Q _ => ∃ (p c : Addr) (m : Int) (k : Nat), vs = [.ref p, .int m] ∧ Pen H p c k ∧ k ≤ 100000 ∧ 0 < m ∧ m ≤ 1000 ∧ ∀ H' d, Kp p H H' → Pen H' p c (k + 1) → 0 ≤ d → d < m → Q (.int d) H'
theorem at_int {l : List Int} {i : Nat} {y : V} (e : (l.map V.int)[i]? = some y) : ∃ b, l[i]? = some b ∧ y = V.int b := by
  rw [List.getElem?_map] at e
  cases q : l[i]? with
  | none => rw [q] at e; cases e
  | some b => rw [q] at e; exact ⟨b, rfl, (Option.some.inj e).symm⟩
section
variable {P : Program} {w : World} {K : PySem.W.Frag} {mg : Str → Option Value} {base : Heap}
theorem rc_int1 {H : Hp} {i : Int} : RC (fun xs H Q => (∃ i, xs = [V.int i] ∧ Q (.int i) H) ∨ ∃ b, xs = [V.bl b] ∧ Q (.int (if b then 1 else 0)) H) [.int i] H (.int i) := fun H2 _ _ q => .inl ⟨_, rfl, q H2 (Ex.refl H2)⟩
theorem ok_pen (T : Txt K mg) : FnOk P w K mg base CX0 1 T.f_pen T.d_pen P_pen (spPen K) := by
  refine T.F_pen.ok sc_pen (fun vs H Q E h => ?_) (fun cdv A outer s H vs Q E hr h => ?_)
  · obtain ⟨a, ns, rfl, _⟩ := h
    rfl
  · obtain ⟨a, ns, rfl, hS, hl, k⟩ := h
    refine ⟨_, (pss_cons (ps_set (i := 1) sc_pen.nd rfl (Or.inl rfl) pe_int)
      (pss_cons (ps_for PassesOwn.never rfl (pi_list (pv 0)) (pg_name (i := 2) sc_pen.nd rfl (Or.inl rfl)) (pss_one (ps_set (i := 1) sc_pen.nd rfl (Or.inl rfl) (pe_op op_mod (pe_callTy call_int1 (by rfl) T.b_int (by decide +kernel) (pa_cons (pe_op op_add (pe_op op_mul (pv 1) pe_int) (pv 2)) pa_nil)) pe_int))))
      (pss_one (ps_ret (pe_disp (pps_cons pe_str (pe_callTy call_list_of (by rfl) T.b_list (by decide +kernel) (pa_cons (pv 0) pa_nil)) (pps_cons pe_str pe_int (pps_cons pe_str pe_int (pps_cons pe_str pe_int (pps_cons pe_str (pv 1) (pps_cons pe_str pe_int pps_nil)))))) (by rfl) (by rfl) (fun z => by cases z) (by decide)))))), ?_⟩
    refine q_asg ev_c fun H1 X1 => ?_
    refine q_forLn (K := K) (ev_var rfl) (ex_l X1 hS) (fun i σ H' => ∃ (t : Int) (v : Option V), σ = [some (.ref a), some (.int t), v] ∧ Ex H H' ∧ 0 ≤ t ∧ t < 2147483629) (fun H2 X2 => ⟨31, none, rfl, X1.trans X2, by decide, by decide⟩) (fun i σ' H' _ ⟨_, _, _, X, _⟩ => ex_l X hS) ?_ ?_
    · rintro i x σ' H' hx ⟨t, v, rfl, X, t0, t1⟩
      obtain ⟨b, _, rfl⟩ := at_int hx
      refine s_asg (ev_op (ev_cb (ea_cons (ev_op (ev_op (ev_var rfl) ev_c (rv_I (.inr (by decide)))) (ev_var rfl) rv_I0) ea_nil) (fun H2 _ _ q => .inl ⟨_, rfl, q H2 (Ex.refl H2)⟩)) ev_c (rv_I (by decide : (0 : Int) < 2147483629))) fun H2 X2 => ?_
      exact ⟨_, _, rfl, X.trans X2, Int.emod_nonneg _ (by decide), Int.emod_lt_of_pos _ (by decide)⟩
    · rintro σ' H' ⟨t, v, rfl, X, t0, t1⟩
      intro p hp
      refine ⟨_, rfl, a, _, rfl, .inl (ex_l (X.trans (Ex.new hp)) hS), fun c hc => ?_⟩
      have ncp : p ≠ c := fun e => by rw [← e, upd_same] at hc; cases hc
      have hc' : H' c = none := by rw [upd_ne ncp.symm] at hc; exact hc
      refine ⟨_, rfl, Eq.trans (upd_ne ncp) upd_same, penK c 0 0 0 t 0, rfl, (by show 6 ≤ 15; decide), ?_⟩
      rw [pk_made]
      refine k _ p c (fun b o e => ?_) (fresh_back X hp) (fresh_back X hc') ⟨ns, 0, 0, 0, t, 0, upd_same, ?_, by decide, by decide, by decide, t0, by omega, by decide, by decide⟩
      · rw [upd_ne (ne_of_none e (fresh_back X hp)), upd_ne (ne_of_none e (fresh_back X hc')), upd_ne (ne_of_none e (fresh_back X hp))]
        exact X _ _ e
      · rw [upd_ne ncp.symm, upd_same]
theorem ok_take (T : Txt K mg) : FnOk P w K mg base CX0 1 T.f_take T.d_take P_take spTake := by
  refine T.F_take.ok sc_take (fun vs H Q E h => ?_) (fun cdv A outer s H vs Q E hr h => ?_)
  · obtain ⟨p, c, m, k, rfl, _⟩ := h
    rfl
  · obtain ⟨p, c, b, k, rfl, ⟨cs, i, r, d, m, t, hp, hc, i0, d0, d1, m0, m1, t0, t1⟩, hk, b0, b1, kont⟩ := h
    have ncp : c ≠ p := ne_of hc hp (by intro q; cases q)
    refine ⟨_, (pss_cons (ps_asg (pe_op op_add (pe_dget (hu_of hr) (pv 0) pe_str (fun _ _ => rfl)) pe_int) (pg_sub (pv 0) pe_str (set_dict (hu_of hr))))
      (pss_cut (ps_if (PW.pt (pw_and (pt_cmpR op_eq (pe_dget (hu_of hr) (pv 0) pe_str (fun _ _ => rfl)) pe_int (nomark _)) (pw_and1 (pt_cmpR op_lt (pe_dget (hu_of hr) (pv 0) pe_str (fun _ _ => rfl)) (pe_callB call_len_seq (by rfl) T.b_len (by decide +kernel) (pa_cons (pe_dget (hu_of hr) (pv 0) pe_str (fun _ _ => rfl)) pa_nil)) (nomark _))))) (pss_cons (ps_set (i := 2) sc_take.nd rfl (Or.inl rfl) (pe_ix ix_list (pe_dget (hu_of hr) (pv 0) pe_str (fun _ _ => rfl)) (pe_dget (hu_of hr) (pv 0) pe_str (fun _ _ => rfl)) (fun _ _ => rfl)))
      (pss_cons (ps_asg (pe_op op_add (pe_dget (hu_of hr) (pv 0) pe_str (fun _ _ => rfl)) pe_int) (pg_sub (pv 0) pe_str (set_dict (hu_of hr))))
      (pss_cons (ps_if (pt_cmpR op_lt (pv 2) (pe_op op_pow pe_int pe_int) (nomark _)) (pss_cons (ps_set (i := 3) sc_take.nd rfl (Or.inl rfl) (pe_op op_mod (pe_callTy call_int1 (by rfl) T.b_int (by decide +kernel) (pa_cons (pv 2) pa_nil)) pe_int))
      (pss_cons (ps_set (i := 3) sc_take.nd rfl (Or.inl rfl) (pe_op op_mod (pe_callTy call_int1 (by rfl) T.b_int (by decide +kernel) (pa_cons (pe_op op_add (pe_op op_add (pe_op op_mul (pv 3) pe_int) (pe_dget (hu_of hr) (pv 0) pe_str (fun _ _ => rfl))) (pe_op op_mul (pe_dget (hu_of hr) (pv 0) pe_str (fun _ _ => rfl)) pe_int)) pa_nil)) pe_int))
      (pss_cons (ps_asg (pe_op op_mod (pe_callTy call_int1 (by rfl) T.b_int (by decide +kernel) (pa_cons (pe_op op_add (pe_op op_add (pe_op op_mul (pe_dget (hu_of hr) (pv 0) pe_str (fun _ _ => rfl)) pe_int) (pv 3)) pe_int) pa_nil)) pe_int) (pg_sub (pv 0) pe_str (set_dict (hu_of hr))))
      (pss_one (ps_ret (pe_op op_mod (pe_op op_fdiv (pe_op op_mod (pe_callTy call_int1 (by rfl) T.b_int (by decide +kernel) (pa_cons (pe_op op_add (pe_op op_mul (pv 3) (pv 3)) (pe_dget (hu_of hr) (pv 0) pe_str (fun _ _ => rfl))) pa_nil)) pe_int) pe_int) (pv 1))))))) pss_nil)
      (pss_cons (ps_asg (pe_op op_sub (pv 2) (pe_op op_pow pe_int pe_int)) (pg_sub (pv 0) pe_str (set_dict (hu_of hr))))
      (pss_one (ps_asg pe_int (pg_sub (pv 0) pe_str (set_dict (hu_of hr))))))))) pss_nil)
      (pss_cons (ps_if (pt_cmpR op_gt (pe_dget (hu_of hr) (pv 0) pe_str (fun _ _ => rfl)) pe_int (nomark _)) (pss_cons (ps_asg (pe_op op_sub (pe_dget (hu_of hr) (pv 0) pe_str (fun _ _ => rfl)) pe_int) (pg_sub (pv 0) pe_str (set_dict (hu_of hr))))
      (pss_cons (ps_set (i := 4) sc_take.nd rfl (Or.inl rfl) (pe_op op_mod (pe_callTy call_int1 (by rfl) T.b_int (by decide +kernel) (pa_cons (pe_dget (hu_of hr) (pv 0) pe_str (fun _ _ => rfl)) pa_nil)) (pv 1)))
      (pss_cons (ps_asg (pe_op op_fdiv (pe_dget (hu_of hr) (pv 0) pe_str (fun _ _ => rfl)) (pv 1)) (pg_sub (pv 0) pe_str (set_dict (hu_of hr))))
      (pss_one (ps_ret (pv 4)))))) pss_nil)
      (pss_cons (ps_asg (pe_op op_mod (pe_callTy call_int1 (by rfl) T.b_int (by decide +kernel) (pa_cons (pe_op op_add (pe_op op_add (pe_op op_mul (pe_dget (hu_of hr) (pv 0) pe_str (fun _ _ => rfl)) pe_int) (pe_op op_mul (pe_dget (hu_of hr) (pv 0) pe_str (fun _ _ => rfl)) pe_int)) pe_int) pa_nil)) pe_int) (pg_sub (pv 0) pe_str (set_dict (hu_of hr))))
      (pss_one (ps_ret (pe_op op_mod (pe_op op_fdiv (pe_op op_mod (pe_callTy call_int1 (by rfl) T.b_int (by decide +kernel) (pa_cons (pe_op op_add (pe_op op_mul (pe_dget (hu_of hr) (pv 0) pe_str (fun _ _ => rfl)) (pe_dget (hu_of hr) (pv 0) pe_str (fun _ _ => rfl))) (pe_dget (hu_of hr) (pv 0) pe_str (fun _ _ => rfl))) pa_nil)) pe_int) pe_int) (pv 1)))))))), ?_⟩
    refine q_dput hp (v := .int (t + 1)) (ev_op (ev_dgetK (ev_var rfl) ev_c hp pk_turn) ev_c rv_I0) (ev_var rfl) ev_c (by show 6 < 100000; decide) fun H1 X1 => ?_
    rw [pp_turn]
    have hp1 : (upd H1 p (.dK (penK c i r d m (t + 1)))) p = some (.dK (penK c i r d m (t + 1))) := upd_same
    have hc1 : (upd H1 p (.dK (penK c i r d m (t + 1)))) c = some (.lst (cs.map V.int)) := (upd_ne ncp).trans (X1 _ _ hc)
    have K1 : Kp p H (upd H1 p (.dK (penK c i r d m (t + 1)))) := Kp.set (Kp.of X1)
    have ht : 0 ≤ t + 1 ∧ t + 1 ≤ ((k + 1 : Nat) : Int) := by omega
    revert hp1 hc1 K1 ht
    generalize upd H1 p (.dK (penK c i r d m (t + 1))) = H2
    generalize t + 1 = u
    intro hp2 hc2 K2 hu
    have hM : (0 : Int) < 2147483629 := by decide
    have hM2 : (0 : Int) < 2147483647 := by decide
    refine q_cut (M := fun σ' H' => ∃ (i' r' d' : Int) (v2 v3 v4 : Option V), σ' = [some (.ref p), some (.int b), v2, v3, v4] ∧ H' p = some (.dK (penK c i' r' d' m u)) ∧ H' c = some (.lst (cs.map V.int)) ∧ 0 ≤ i' ∧ 0 ≤ d' ∧ d' ≤ 50 ∧ Kp p H H') ?_ ?_
    · refine s_when (et_and (et_test (ev_op (ev_dgetK (ev_var rfl) ev_c hp2 pk_digits) ev_c (rv_eq rfl))) fun _ => et_test (ev_op (ev_dgetK (ev_var rfl) ev_c hp2 pk_at) (ev_cb (ea_cons (ev_dgetK (ev_var rfl) ev_c hp2 pk_cells) ea_nil) (rc_lenL (sq_of hc2))) rv_I0)) (fun q H3 X3 => ?_) (fun q H3 X3 => ?_)
      · have q' := (Bool.and_eq_true_iff.mp q).2
        have hi : i.toNat < cs.length := by
          have := of_decide_eq_true q'
          simp at this
          omega
        have hp3 := X3 _ _ hp2
        have hc3 := X3 _ _ hc2
        refine q_asg (v := .int (cs[i.toNat])) (ev_op (ev_dgetK (ev_var rfl) ev_c hp3 pk_cells) (ev_dgetK (ev_var rfl) ev_c hp3 pk_at) (rv_ixL (sq_of hc3) (at_of (j := i.toNat) (by omega) (by rw [List.getElem?_map, List.getElem?_eq_getElem hi]; rfl)))) fun H4 X4 => ?_
        generalize cs[i.toNat] = cell
        have hp4 := X4 _ _ hp3
        refine q_dput hp4 (v := .int (i + 1)) (ev_op (ev_dgetK (ev_var rfl) ev_c hp4 pk_at) ev_c rv_I0) (ev_var rfl) ev_c (by show 6 < 100000; decide) fun H5 X5 => ?_
        rw [pp_at]
        have hp5 : (upd H5 p (.dK (penK c (i + 1) r d m u))) p = some (.dK (penK c (i + 1) r d m u)) := upd_same
        have hc5 : (upd H5 p (.dK (penK c (i + 1) r d m u))) c = some (.lst (cs.map V.int)) := (upd_ne ncp).trans (X5 _ _ (X4 _ _ hc3))
        have K5 : Kp p H (upd H5 p (.dK (penK c (i + 1) r d m u))) := Kp.set (Kp.trans K2 (Kp.of (X3.trans (X4.trans X5))))
        revert hp5 hc5 K5
        generalize upd H5 p (.dK (penK c (i + 1) r d m u)) = H6
        intro hp6 hc6 K6
        refine q_when (et_test (ev_op (ev_var rfl) (ev_op ev_c ev_c (rv_I ⟨by decide, by decide, by decide⟩)) rv_I0)) (fun q2 H7 X7 => ?_) (fun q2 H7 X7 => ?_)
        · have hp7 := X7 _ _ hp6
          refine q_asg (v := .int (cell % 2147483629)) (ev_op (ev_cb (ea_cons (ev_var rfl) ea_nil) (fun H2 _ _ q => .inl ⟨_, rfl, q H2 (Ex.refl H2)⟩)) ev_c (rv_I hM)) fun H8 X8 => ?_
          have e0 : 0 ≤ cell % 2147483629 := Int.emod_nonneg _ (by decide)
          have e1 : cell % 2147483629 < 2147483629 := Int.emod_lt_of_pos _ hM
          revert e0 e1
          generalize cell % 2147483629 = e
          intro e0 e1
          have hp8 := X8 _ _ hp7
          refine q_asg (v := .int ((e * 48271 + m + u * 69621) % 2147483647)) (ev_op (ev_cb (ea_cons (ev_op (ev_op (ev_op (ev_var rfl) ev_c (rv_I (.inr (by decide)))) (ev_dgetK (ev_var rfl) ev_c hp8 pk_mix) rv_I0) (ev_op (ev_dgetK (ev_var rfl) ev_c hp8 pk_turn) ev_c (rv_I (.inr (by decide)))) rv_I0) ea_nil) (fun H2 _ _ q => .inl ⟨_, rfl, q H2 (Ex.refl H2)⟩)) ev_c (rv_I hM2)) fun H9 X9 => ?_
          have f0 : 0 ≤ (e * 48271 + m + u * 69621) % 2147483647 := Int.emod_nonneg _ (by decide)
          have f1 : (e * 48271 + m + u * 69621) % 2147483647 < 2147483647 := Int.emod_lt_of_pos _ hM2
          revert f0 f1
          generalize (e * 48271 + m + u * 69621) % 2147483647 = f
          intro f0 f1
          have hp9 := X9 _ _ hp8
          refine q_dput hp9 (v := .int ((m * 16807 + f + 11) % 2147483629)) (ev_op (ev_cb (ea_cons (ev_op (ev_op (ev_op (ev_dgetK (ev_var rfl) ev_c hp9 pk_mix) ev_c (rv_I (.inr (by decide)))) (ev_var rfl) rv_I0) ev_c rv_I0) ea_nil) (fun H2 _ _ q => .inl ⟨_, rfl, q H2 (Ex.refl H2)⟩)) ev_c (rv_I hM)) (ev_var rfl) ev_c (by show 6 < 100000; decide) fun H10 X10 => ?_
          rw [pp_mix]
          have g0 : 0 ≤ (m * 16807 + f + 11) % 2147483629 := Int.emod_nonneg _ (by decide)
          have g1 : (m * 16807 + f + 11) % 2147483629 < 2147483629 := Int.emod_lt_of_pos _ hM
          revert g0 g1
          generalize (m * 16807 + f + 11) % 2147483629 = g
          intro g0 g1
          have hp11 : (upd H10 p (.dK (penK c (i + 1) r d g u))) p = some (.dK (penK c (i + 1) r d g u)) := upd_same
          have hc11 : (upd H10 p (.dK (penK c (i + 1) r d g u))) c = some (.lst (cs.map V.int)) := (upd_ne ncp).trans (X10 _ _ (X9 _ _ (X8 _ _ (X7 _ _ hc6))))
          have K11 : Kp p H (upd H10 p (.dK (penK c (i + 1) r d g u))) := Kp.set (Kp.trans K6 (Kp.of (X7.trans (X8.trans (X9.trans X10)))))
          refine s_ret (v := .int ((f * f + g) % 2147483579 / 3 % b)) (ev_op (ev_op (ev_op (ev_cb (ea_cons (ev_op (ev_op (ev_var rfl) (ev_var rfl) (rv_I (.inl ⟨by omega, by omega⟩))) (ev_dgetK (ev_var rfl) ev_c hp11 pk_mix) rv_I0) ea_nil) (fun H2 _ _ q => .inl ⟨_, rfl, q H2 (Ex.refl H2)⟩)) ev_c (rv_I (by decide : (0 : Int) < 2147483579))) ev_c (rv_I ⟨by decide, by decide⟩)) (ev_var rfl) (rv_I b0)) fun H12 X12 => ?_
          exact kont _ _ (Kp.trans K11 (Kp.of X12)) ⟨cs, _, _, _, _, _, X12 _ _ hp11, X12 _ _ hc11, by omega, d0, d1, g0, by omega, hu.1, hu.2⟩ (Int.emod_nonneg _ (by omega)) (Int.emod_lt_of_pos _ b0)
        · have hp7 := X7 _ _ hp6
          have hc7 := X7 _ _ hc6
          refine q_dput hp7 (v := .int (cell - 10 ^ 18)) (ev_op (ev_var rfl) (ev_op ev_c ev_c (rv_I ⟨by decide, by decide, by decide⟩)) rv_I0) (ev_var rfl) ev_c (by show 6 < 100000; decide) fun H8 X8 => ?_
          rw [pp_rest]
          have hp8 : (upd H8 p (.dK (penK c (i + 1) (cell - 10 ^ 18) d m u))) p = some (.dK (penK c (i + 1) (cell - 10 ^ 18) d m u)) := upd_same
          refine s_dput hp8 (v := .int 50) ev_c (ev_var rfl) ev_c (by show 6 < 100000; decide) fun H9 X9 => ?_
          rw [pp_digits]
          refine ⟨_, _, _, _, _, _, rfl, upd_same, (upd_ne ncp).trans (X9 _ _ ((upd_ne ncp).trans (X8 _ _ hc7))), by omega, by decide, by decide, ?_⟩
          exact Kp.set (Kp.trans (Kp.set (Kp.trans K6 (Kp.of (X7.trans X8)))) (Kp.of X9))
      · exact ⟨_, _, _, _, _, _, rfl, X3 _ _ hp2, X3 _ _ hc2, i0, d0, d1, Kp.trans K2 (Kp.of X3)⟩
    · rintro σ' H3 ⟨i', r', d', v2, v3, v4, rfl, hp3, hc3, i0', d0', d1', K3⟩
      refine q_when (et_test (ev_op (ev_dgetK (ev_var rfl) ev_c hp3 pk_digits) ev_c rv_I0)) (fun q H4 X4 => ?_) (fun q H4 X4 => ?_)
      · have hd : 0 < d' := of_decide_eq_true q
        have hp4 := X4 _ _ hp3
        refine q_dput hp4 (v := .int (d' - 1)) (ev_op (ev_dgetK (ev_var rfl) ev_c hp4 pk_digits) ev_c rv_I0) (ev_var rfl) ev_c (by show 6 < 100000; decide) fun H5 X5 => ?_
        rw [pp_digits]
        have hp5 : (upd H5 p (.dK (penK c i' r' (d' - 1) m u))) p = some (.dK (penK c i' r' (d' - 1) m u)) := upd_same
        refine q_asg (v := .int (r' % b)) (ev_op (ev_cb (ea_cons (ev_dgetK (ev_var rfl) ev_c hp5 pk_rest) ea_nil) (fun H2 _ _ q => .inl ⟨_, rfl, q H2 (Ex.refl H2)⟩)) (ev_var rfl) (rv_I b0)) fun H6 X6 => ?_
        have hp6 := X6 _ _ hp5
        refine q_dput hp6 (v := .int (r' / b)) (ev_op (ev_dgetK (ev_var rfl) ev_c hp6 pk_rest) (ev_var rfl) (rv_I ⟨b0, by omega⟩)) (ev_var rfl) ev_c (by show 6 < 100000; decide) fun H7 X7 => ?_
        rw [pp_rest]
        refine s_ret (ev_var rfl) fun H8 X8 => ?_
        refine kont _ _ (Kp.trans (Kp.set (Kp.trans (Kp.set (Kp.trans K3 (Kp.of (X4.trans X5)))) (Kp.of (X6.trans X7)))) (Kp.of X8)) ⟨cs, _, _, _, _, _, X8 _ _ upd_same, X8 _ _ ((upd_ne ncp).trans (X7 _ _ (X6 _ _ ((upd_ne ncp).trans (X5 _ _ (X4 _ _ hc3)))))), i0', by omega, by omega, m0, m1, hu.1, hu.2⟩ (Int.emod_nonneg _ (by omega)) (Int.emod_lt_of_pos _ b0)
      · have hp4 := X4 _ _ hp3
        refine q_dput hp4 (v := .int ((m * 16807 + u * 40692 + 7) % 2147483647)) (ev_op (ev_cb (ea_cons (ev_op (ev_op (ev_op (ev_dgetK (ev_var rfl) ev_c hp4 pk_mix) ev_c (rv_I (.inr (by decide)))) (ev_op (ev_dgetK (ev_var rfl) ev_c hp4 pk_turn) ev_c (rv_I (.inr (by decide)))) rv_I0) ev_c rv_I0) ea_nil) (fun H2 _ _ q => .inl ⟨_, rfl, q H2 (Ex.refl H2)⟩)) ev_c (rv_I hM2)) (ev_var rfl) ev_c (by show 6 < 100000; decide) fun H5 X5 => ?_
        rw [pp_mix]
        have f0 : 0 ≤ (m * 16807 + u * 40692 + 7) % 2147483647 := Int.emod_nonneg _ (by decide)
        have f1 : (m * 16807 + u * 40692 + 7) % 2147483647 < 2147483647 := Int.emod_lt_of_pos _ hM2
        revert f0 f1
        generalize (m * 16807 + u * 40692 + 7) % 2147483647 = f
        intro f0 f1
        have hp5 : (upd H5 p (.dK (penK c i' r' d' f u))) p = some (.dK (penK c i' r' d' f u)) := upd_same
        refine s_ret (v := .int ((f * f + u) % 2147483563 / 5 % b)) (ev_op (ev_op (ev_op (ev_cb (ea_cons (ev_op (ev_op (ev_dgetK (ev_var rfl) ev_c hp5 pk_mix) (ev_dgetK (ev_var rfl) ev_c hp5 pk_mix) (rv_I (.inl ⟨by omega, by omega⟩))) (ev_dgetK (ev_var rfl) ev_c hp5 pk_turn) rv_I0) ea_nil) (fun H2 _ _ q => .inl ⟨_, rfl, q H2 (Ex.refl H2)⟩)) ev_c (rv_I (by decide : (0 : Int) < 2147483563))) ev_c (rv_I ⟨by decide, by decide⟩)) (ev_var rfl) (rv_I b0)) fun H6 X6 => ?_
        exact kont _ _ (Kp.trans (Kp.set (Kp.trans K3 (Kp.of (X4.trans X5)))) (Kp.of X6)) ⟨cs, _, _, _, _, _, X6 _ _ hp5, X6 _ _ ((upd_ne ncp).trans (X5 _ _ (X4 _ _ hc3))), i0', d0', d1', f0, by omega, hu.1, hu.2⟩ (Int.emod_nonneg _ (by omega)) (Int.emod_lt_of_pos _ b0)
end
end K24

namespace K24
open PySem L2 Way Evl
/-! keys -/
def kItself (t : Int) : List KI := [.f (.inr "itself"), .f (.inl t)]
def kMarks (n : Str) (ms : List Int) : List KI := [.f (.inr "marks"), .f (.inr n), .t (ms.map .inl)]
def keyOf (rule : Str) (t : Int) (n : Str) (ms : List Int) : Option (List KI) := if rule = "itself" then some (kItself t) else if rule = "marks" then some (kMarks n ms) else none
theorem map_kV (ms : List Int) : (ms.map (Sum.inl : Int → Key)).map kV = ms.map V.int := by rw [List.map_map]; rfl
theorem lay_ints : ∀ ms : List Int, PyData.canLayAll0 ((ms.map (Sum.inl : Int → Key)).map keyD) = true
  | [] => by simp [PyData.canLayAll0]
  | a :: r => by simp only [List.map_cons, PyData.canLayAll0, lay_ints r, keyD, PyData.canLay0, Bool.and_self]
theorem lay_itself (t : Int) : (nkD (kItself t)).canLay0 = true := by
  have e : PyData.strOk ("itself" : Str) = true := by decide +kernel
  simp only [nkD, kItself, List.map_cons, List.map_nil, kiD, keyD, PyData.canLay0, PyData.canLayAll0, e, Bool.and_self]
theorem lay_marks {n : Str} (h : PyData.strOk n = true) (ms : List Int) : (nkD (kMarks n ms)).canLay0 = true := by
  have e : PyData.strOk ("marks" : Str) = true := by decide +kernel
  simp only [nkD, kMarks, List.map_cons, List.map_nil, kiD, keyD, PyData.canLay0, PyData.canLayAll0, e, h, lay_ints, Bool.and_self]
/-! the memo -/
theorem ns_ : ¬ (("number" : Str) = "store") := by decide +kernel
theorem sn_ : ¬ (("store" : Str) = "number") := by decide +kernel
def mf (n : Int) (d : Addr) : List (Str × V) := putF "store" (.ref d) (putF "number" (.int n) [])
theorem mf_store (n : Int) (d : Addr) : (mf n d).lookup ("store" : Str) = some (.ref d) := by
  unfold mf
  rw [lookup_putF, if_pos rfl]
theorem mf_number (n : Int) (d : Addr) : (mf n d).lookup ("number" : Str) = some (.int n) := by
  unfold mf
  rw [lookup_putF, if_neg ns_, lookup_putF, if_pos rfl]
theorem mf_no (n : Int) (d : Addr) {m : Str} (h1 : ¬ m = "store") (h2 : ¬ m = "number") : (mf n d).lookup m = none := by
  unfold mf
  rw [lookup_putF, if_neg h1, lookup_putF, if_neg h2]
  all_goals rfl
section
variable (P : Program) (w : World) (C : Addr)
def MemoAt (H : Hp) (x d : Addr) (n : Int) (xs : NdX) : Prop := (∃ dx, H x = some (.ins C dx (mf n d))) ∧ H d = some (NdO P w d xs) ∧ AllK H xs
def spInit : Sp := fun vs H Q _ => ∃ (H0 : Hp) (x dx : Addr) (n : Int), vs = [.ref x, .int n] ∧ Same H0 H ∧ H0 x = none ∧ H x = some (.ins C dx []) ∧ ∀ H' d, Same H0 H' → H0 d = none → MemoAt P w C H' x d n [] → Q .non H'
def spLen : Sp := fun vs H Q _ => ∃ (x d : Addr) (n : Int) (xs : NdX), vs = [.ref x] ∧ MemoAt P w C H x d n xs ∧ Q (.int ((xs.length : Nat) : Int)) H
def spContains : Sp := fun vs H Q _ => ∃ (x d : Addr) (n : Int) (xs : NdX) (v : V) (k : Option (List KI)), vs = [.ref x, v] ∧ MemoAt P w C H x d n xs ∧ NdKey H v k ∧ Q (.bl (lookO xs k).isSome) H
def spKnown : Sp := fun vs H Q _ => ∃ (x d : Addr) (n : Int) (xs : NdX) (v : V) (k : Option (List KI)), vs = [.ref x, v] ∧ MemoAt P w C H x d n xs ∧ NdKey H v k ∧ Q ((lookO xs k).getD .non) H
def spKeep : Sp := fun vs H Q _ => ∃ (x d : Addr) (n : Int) (xs : NdX) (v y : V) (k : Option (List KI)), vs = [.ref x, v, y] ∧ MemoAt P w C H x d n xs ∧ NdKey H v k ∧ xs.length ≤ 1000 ∧
  ((k = none ∨ (lookO xs k).isSome = true) → Q .non H) ∧ ∀ ks a, k = some ks → v = .ref a → lookN xs ks = none → Q .non (upd H d (NdO P w d (xs ++ [(ks, a, y)])))
def spKept : Sp := fun vs H Q _ => ∃ (x d : Addr) (n : Int) (xs : NdX), vs = [.ref x] ∧ MemoAt P w C H x d n xs ∧
  ∀ (H' : Hp) (p : Addr) (ts : List Addr), Same H H' → H p = none → (∀ t ∈ ts, H t = none) → H' p = some (.lst (ts.map V.ref)) → Paired (fun (t : Addr) (q : List KI × Addr × V) => H' t = some (.tup [.ref q.2.1, q.2.2])) ts xs → Q (.ref p) H'
end
def spKey : Sp := fun vs H Q _ => ∃ (rule n : Str) (t : Int) (l : Addr) (ms : List Int), vs = [.str rule, .int t, .str n, .ref l] ∧ H l = some (.lst (ms.map V.int)) ∧ ms.length ≤ 1000 ∧ PyData.strOk n = true ∧ ∀ H' v, Same H H' → NdKey H' v (keyOf rule t n ms) → Q v H'
/-- no more than some thirty digits -/
def Small (z : Int) : Prop := -(10 ^ 31) < z ∧ z < 10 ^ 31
theorem Small.log {z : Int} (h : Small z) : z.natAbs.log2 < 200 := by
  by_cases h0 : z.natAbs = 0
  · rw [h0]; decide
  · refine (Nat.log2_lt h0).mpr ?_
    have h1 := h.1
    have h2 := h.2
    have : (10 : Int) ^ 31 ≤ 2 ^ 200 := by decide
    have e : ((2 ^ 200 : Nat) : Int) = 2 ^ 200 := by norm_cast
    omega
def spNumber : Sp := fun vs H Q _ => ∃ (p c : Addr) (k : Nat), vs = [.ref p] ∧ Pen H p c k ∧ k ≤ 90000 ∧ ∀ H' z, Kp p H H' → Pen H' p c (k + 2) → Small z → Q (.int z) H'
section
variable {P : Program} {w : World} {K : PySem.W.Frag} {mg : Str → Option Value} {base : Heap}
theorem ok_memo_key (T : Txt K mg) : FnOk P w K mg base CX0 1 T.f_memo_key T.d_memo_key P_memo_key spKey := by
  refine T.F_memo_key.ok sc_memo_key (fun vs H Q E h => ?_) (fun cdv A outer s H vs Q E hr h => ?_)
  · obtain ⟨rule, n, t, l, ms, rfl, _⟩ := h
    rfl
  · obtain ⟨rule, n, t, l, ms, rfl, hl, hz, hn, k⟩ := h
    refine ⟨_, (pss_cons (ps_if (pt_cmpR op_eq (pv 0) pe_str (nomark _)) (pss_one (ps_ret (pe_tup (pa_cons pe_str (pa_cons (pv 1) pa_nil))))) pss_nil)
      (pss_cons (ps_if (pt_cmpR op_eq (pv 0) pe_str (nomark _)) (pss_one (ps_ret (pe_tup (pa_cons pe_str (pa_cons (pv 2) (pa_cons (pe_callTy call_tuple_of (by rfl) T.b_tuple (by decide +kernel) (pa_cons (pv 3) pa_nil)) pa_nil)))))) pss_nil)
      (pss_one (ps_ret pe_non)))), ?_⟩
    refine q_when (et_test (ev_op (ev_var rfl) ev_c (rv_eq rfl))) (fun q H1 X1 => ?_) (fun q H1 X1 => ?_)
    · have e : rule = "itself" := by simpa using q
      refine s_retU (eu_tup (vs := [.str "itself", .int t]) (ea_cons ev_c (ea_cons (ev_var rfl) ea_nil)) (by show 2 ≤ 100000; decide)) fun p H2 hp X2 h2 => ?_
      refine k _ _ (X1.trans X2) ?_
      unfold keyOf
      rw [if_pos e]
      exact ⟨p, rfl, lay_itself t, _, h2, .cons rfl (.cons rfl .nil)⟩
    · have e : ¬ rule = "itself" := by simpa using q
      refine q_when (et_test (ev_op (ev_var rfl) ev_c (rv_eq rfl))) (fun q H2 X2 => ?_) (fun q H2 X2 => ?_)
      · have f : rule = "marks" := by simpa using q
        refine ⟨_, rfl, _, rfl, l, _, rfl, .inl ⟨SqL.of (X2 _ _ (X1 _ _ hl)), fun a ha => ?_⟩⟩
        refine ⟨by show 3 ≤ sizeLine; decide, fun p hp => ?_⟩
        have S : Same H (upd (upd H2 a (.tup (ms.map V.int))) p (.tup [.str "marks", .str n, .ref a])) := Same.new' (Same.new' (X1.trans X2) ha) hp
        refine k _ _ S ?_
        unfold keyOf
        rw [if_neg e, if_pos f]
        refine ⟨p, rfl, lay_marks hn ms, _, upd_same, .cons rfl (.cons rfl (.cons ⟨a, rfl, ?_⟩ .nil))⟩
        rw [map_kV, upd_ne (ne_of_none upd_same hp), upd_same]
      · have f : ¬ rule = "marks" := by simpa using q
        refine s_ret ev_c fun H3 X3 => k _ _ (X1.trans (X2.trans X3)) ?_
        unfold keyOf
        rw [if_neg e, if_neg f]
        rfl
theorem ok_number (T : Txt K mg) : FnOk P w K mg base CX0 2 T.f_number T.d_number P_number spNumber := by
  have G_take := ok_take (P := P) (w := w) (base := base) T
  refine T.F_number.ok sc_number (fun vs H Q E h => ?_) (fun cdv A outer s H vs Q E hr h => ?_)
  · obtain ⟨p, c, k, rfl, _⟩ := h
    rfl
  · obtain ⟨p, c, k, rfl, hP, hk, kont⟩ := h
    refine ⟨_, (pss_cons (ps_set (i := 1) sc_number.nd rfl (Or.inl rfl) (pe_ix ix_list (pe_lst (pa_cons pe_int (pa_cons pe_int (pa_cons pe_int (pa_cons (pe_op op_sub (pe_op op_pow pe_int pe_int) pe_int) (pa_cons (pe_op op_sub pe_int (pe_op op_pow pe_int pe_int)) pa_nil)))))) (pe_call G_take hr (by rfl) T.g_take T.F_take.kp T.B_take .nil pass0 (pa_cons (pv 0) (pa_cons pe_int pa_nil))) (fun _ _ => rfl)))
      (pss_one (ps_ret (pe_op op_add (pv 1) (pe_call G_take hr (by rfl) T.g_take T.F_take.kp T.B_take .nil pass0 (pa_cons (pv 0) (pa_cons pe_int pa_nil))))))), ?_⟩
    refine ⟨_, _, rfl, rfl, ⟨by decide, by decide, by decide⟩, _, _, rfl, rfl, _, _, rfl, rfl, ⟨by decide, by decide, by decide⟩, _, _, rfl, rfl, by show 5 ≤ sizeLine; decide, fun l hl => ?_⟩
    have X1 : Same H (upd H l (.lst [.int 0, .int 0, .int 0, .int (10 ^ 30 - 3), .int (1 - 10 ^ 30)])) := Same.new' (Same.refl H) hl
    have h1 : (upd H l (.lst [.int 0, .int 0, .int 0, .int (10 ^ 30 - 3), .int (1 - 10 ^ 30)])) l = some (.lst [.int 0, .int 0, .int 0, .int (10 ^ 30 - 3), .int (1 - 10 ^ 30)]) := upd_same
    revert X1 h1
    show _ → _ → tCall _ _ _ _ _ (upd H l (.lst [.int 0, .int 0, .int 0, .int (10 ^ 30 - 3), .int (1 - 10 ^ 30)])) _
    generalize upd H l (.lst [.int 0, .int 0, .int 0, .int (10 ^ 30 - 3), .int (1 - 10 ^ 30)]) = H1
    intro X1 h1
    have P1 := hP.mono X1
    refine ⟨_, rfl, p, c, 5, k, rfl, P1, by omega, by decide, by decide, fun H2 d K2 P2 d0 d1 => ?_⟩
    have nl := hP.ne hl
    have h2 := K2 _ _ nl h1
    have hs : ∃ z : Int, ([.int 0, .int 0, .int 0, .int (10 ^ 30 - 3), .int (1 - 10 ^ 30)] : List V)[d.toNat]? = some (.int z) ∧ -(10 ^ 31) + 100 < z ∧ z < 10 ^ 31 - 100 := by
      have hd : d.toNat < 5 := by omega
      match d.toNat, hd with
      | 0, _ => exact ⟨_, rfl, by decide, by decide⟩
      | 1, _ => exact ⟨_, rfl, by decide, by decide⟩
      | 2, _ => exact ⟨_, rfl, by decide, by decide⟩
      | 3, _ => exact ⟨_, rfl, by decide, by decide⟩
      | 4, _ => exact ⟨_, rfl, by decide, by decide⟩
    obtain ⟨z, hz, z0, z1⟩ := hs
    refine ⟨l, _, _, _, rfl, rfl, SqL.of h2, at_of (j := d.toNat) (by omega) hz, ?_⟩
    refine ⟨_, rfl, _, rfl, p, c, 3, k + 1, rfl, P2, by omega, by decide, by decide, fun H3 e K3 P3 e0 e1 => ?_⟩
    refine ⟨_, _, rfl, rfl, kont _ _ (Kp.trans (Kp.of X1) (Kp.trans K2 K3)) P3 ⟨by omega, by omega⟩⟩
theorem ok_init (T : Txt K mg) : FnOk P w K mg base CX0 1 T.f_Memo_init T.d_Memo_init P_Memo_init (spInit P w T.C_Memo) := by
  refine T.F_Memo_init.ok sc_Memo_init (fun vs H Q E h => ?_) (fun cdv A outer s H vs Q E hr h => ?_)
  · obtain ⟨H0, x, dx, n, rfl, _⟩ := h
    rfl
  · obtain ⟨H0, x, dx, n, rfl, s0, x0, hx, k⟩ := h
    refine ⟨_, (pss_cons (ps_fld (pv 0) (pv 1) rfl)
      (pss_one (ps_fld (pv 0) Way.pe_dnewN rfl))), ?_⟩
    refine ⟨_, rfl, _, rfl, x, _, dx, [], rfl, hx, T.cl_Memo, T.na_Memo_number, (by show 0 < 1000; decide), fun d hd => ?_⟩
    have nxd : x ≠ d := fun e => by rw [← e, upd_same] at hd; cases hd
    have hd' : H d = none := by rw [upd_ne nxd.symm] at hd; exact hd
    refine ⟨_, rfl, x, _, dx, _, rfl, Eq.trans (upd_ne nxd) upd_same, T.cl_Memo, T.na_Memo_store, (by show 1 < 1000; decide), ?_⟩
    refine k _ d (fun b o e => ?_) (s0.free hd') ⟨⟨dx, upd_same⟩, ?_, fun q hq => by cases hq⟩
    · have nbx := ne_of_none e x0
      rw [upd_ne nbx, upd_ne (ne_of_none (s0 _ _ e) hd'), upd_ne nbx]
      exact s0 _ _ e
    · rw [upd_ne nxd.symm, upd_same]
      rfl
theorem ok_len (T : Txt K mg) : FnOk P w K mg base CX0 1 T.f_Memo_len T.d_Memo_len P_Memo_len (spLen P w T.C_Memo) := by
  refine T.F_Memo_len.ok sc_Memo_len (fun vs H Q E h => ?_) (fun cdv A outer s H vs Q E hr h => ?_)
  · obtain ⟨x, d, n, xs, rfl, _⟩ := h
    rfl
  · obtain ⟨x, d, n, xs, rfl, ⟨⟨dx, hx⟩, hd, ha⟩, k⟩ := h
    refine ⟨_, (pss_one (ps_ret (pe_callB Way.call_lenN (by rfl) T.b_len (by decide +kernel) (pa_cons (pe_fld (pv 0) rfl) pa_nil)))), ?_⟩
    exact ⟨_, rfl, x, _, dx, _, _, rfl, hx, T.cl_Memo, T.na_Memo_store, mf_store _ _, d, xs, rfl, hd, ha, k⟩
theorem ok_contains (T : Txt K mg) : FnOk P w K mg base CX0 1 T.f_Memo_contains T.d_Memo_contains P_Memo_contains (spContains P w T.C_Memo) := by
  refine T.F_Memo_contains.ok sc_Memo_contains (fun vs H Q E h => ?_) (fun cdv A outer s H vs Q E hr h => ?_)
  · obtain ⟨x, d, n, xs, v, ky, rfl, _⟩ := h
    rfl
  · obtain ⟨x, d, n, xs, v, ky, rfl, ⟨⟨dx, hx⟩, hd, ha⟩, hk, k⟩ := h
    refine ⟨_, (pss_one (ps_ret (pe_cmpR (Way.op_inN (hu65 hr)) (pv 1) (pe_fld (pv 0) rfl) (by rfl)))), ?_⟩
    exact ⟨_, rfl, _, rfl, x, _, dx, _, _, rfl, hx, T.cl_Memo, T.na_Memo_store, mf_store _ _, d, xs, ky, rfl, hd, ha, hk, k⟩
theorem ok_known (T : Txt K mg) : FnOk P w K mg base CX0 1 T.f_Memo_known T.d_Memo_known P_Memo_known (spKnown P w T.C_Memo) := by
  refine T.F_Memo_known.ok sc_Memo_known (fun vs H Q E h => ?_) (fun cdv A outer s H vs Q E hr h => ?_)
  · obtain ⟨x, d, n, xs, v, ky, rfl, _⟩ := h
    rfl
  · obtain ⟨x, d, n, xs, v, ky, rfl, ⟨⟨dx, hx⟩, hd, ha⟩, hk, k⟩ := h
    refine ⟨_, (pss_one (ps_ret (Way.pe_getN (hu66 hr) (pe_fld (pv 0) rfl) (pv 1) ⟨rfl, rfl, rfl, rfl⟩))), ?_⟩
    exact ⟨_, rfl, x, _, dx, _, _, rfl, hx, T.cl_Memo, T.na_Memo_store, mf_store _ _, d, xs, rfl, hd, _, rfl, ky, hd, ha, hk, k⟩
theorem ok_kept (T : Txt K mg) : FnOk P w K mg base CX0 1 T.f_Memo_kept T.d_Memo_kept P_Memo_kept (spKept P w T.C_Memo) := by
  refine T.F_Memo_kept.ok sc_Memo_kept (fun vs H Q E h => ?_) (fun cdv A outer s H vs Q E hr h => ?_)
  · obtain ⟨x, d, n, xs, rfl, _⟩ := h
    rfl
  · obtain ⟨x, d, n, xs, rfl, ⟨⟨dx, hx⟩, hd, ha⟩, k⟩ := h
    refine ⟨_, (pss_one (ps_ret (Way.pe_itemsN rfl (pe_fld (pv 0) rfl) (by rfl) T.b_list (by decide +kernel)))), ?_⟩
    exact ⟨_, rfl, x, _, dx, _, _, rfl, hx, T.cl_Memo, T.na_Memo_store, mf_store _ _, d, xs, rfl, hd, k⟩
theorem ok_keep (T : Txt K mg) : FnOk P w K mg base CX0 1 T.f_Memo_keep T.d_Memo_keep P_Memo_keep (spKeep P w T.C_Memo) := by
  refine T.F_Memo_keep.ok sc_Memo_keep (fun vs H Q E h => ?_) (fun cdv A outer s H vs Q E hr h => ?_)
  · obtain ⟨x, d, n, xs, v, y, ky, rfl, _⟩ := h
    rfl
  · obtain ⟨x, d, n, xs, v, y, ky, rfl, ⟨⟨dx, hx⟩, hd, ha⟩, hk, hz, k1, k2⟩ := h
    refine ⟨_, (pss_one (ps_if (PW.pt (pw_and (pt_cmpR op_notN (pv 1) pe_non (nomark _)) (pw_and1 (pt_cmpR (Way.op_notInN (hu65 hr)) (pv 1) (pe_fld (pv 0) rfl) (by rfl))))) (pss_one (ps_asg (pv 2) (pg_sub (pe_fld (pv 0) rfl) (pv 1) (Way.set_nd (hu65 hr))))) pss_nil)), ?_⟩
    refine ⟨_, rfl, rfl, _, rfl, ?_⟩
    cases ky with
    | none =>
      cases (show v = .non from hk)
      exact ite2 (fun q => by simp at q) (fun _ => k1 (.inl rfl))
    | some ks =>
      obtain ⟨a, rfl, ka⟩ := id hk
      refine ite2 (fun _ => ?_) (fun q => by simp at q)
      refine ⟨_, rfl, _, rfl, x, _, dx, _, _, rfl, hx, T.cl_Memo, T.na_Memo_store, mf_store _ _, d, xs, some ks, rfl, hd, ha, hk, _, rfl, ?_⟩
      refine ite2 (fun q => ?_) (fun q => ?_)
      · have hn : lookN xs ks = none := by
          cases e : lookN xs ks with
          | none => rfl
          | some z =>
            have e' : (lookO xs (some ks)).isSome = true := by show (lookN xs ks).isSome = true; rw [e]; rfl
            rw [e'] at q
            cases q
        refine ⟨_, rfl, _, rfl, x, _, dx, _, _, rfl, hx, T.cl_Memo, T.na_Memo_store, mf_store _ _, _, rfl, d, xs, ks, a, rfl, rfl, hd, ha, ka, hn, ?_, k2 ks a rfl rfl hn⟩
        exact Nat.lt_of_le_of_lt hz (by decide)
      · refine k1 (.inr ?_)
        cases e : (lookO xs (some ks)).isSome with
        | true => rfl
        | false => exact absurd (show (if true = true then !(lookO xs (some ks)).isSome else (lookO xs (some ks)).isSome) = true by rw [e]; rfl) q
end
end K24

namespace K24
open PySem L2 Way Evl
/-! keys as data -/
def keyData : Option (List KI) → PyData
  | none => .none
  | some ks => nkD ks
section
variable {K : PySem.W.Frag} {H : Hp}
theorem dp_keys : ∀ ks : List Key, DpAll K H (ks.map kV) (ks.map keyD)
  | [] => .nil
  | .inl i :: r => .cons (.int i) (dp_keys r)
  | .inr x :: r => .cons (.str x) (dp_keys r)
theorem dp_kis : ∀ {ks : List KI} {items : List V}, Paired (KiV H) ks items → DpAll K H items (ks.map kiD)
  | _, _, .nil => .nil
  | .f (.inl i) :: _, _, .cons a r => by cases a; exact .cons (.int i) (dp_kis r)
  | .f (.inr x) :: _, _, .cons a r => by cases a; exact .cons (.str x) (dp_kis r)
  | .t ks :: _, _, .cons a r => by obtain ⟨b, rfl, hb⟩ := a; exact .cons (.tup (SqT.of hb) (dp_keys ks)) (dp_kis r)
theorem dp_key {ks : List KI} {a : Addr} (h : KeyAt H ks a) : Dp K H (.ref a) (nkD ks) := let ⟨_, items, h1, h2⟩ := h; .tup (SqT.of h1) (dp_kis h2)
theorem dp_ndk {v : V} : ∀ {k : Option (List KI)}, NdKey H v k → Dp K H v (keyData k)
  | none, h => by cases (show v = .non from h); exact .non
  | some ks, h => by obtain ⟨a, rfl, ka⟩ := h; exact dp_key ka
theorem ndk_mono {H' : Hp} {v : V} (e : Same H H') : ∀ {k : Option (List KI)}, NdKey H v k → NdKey H' v k
  | none, h => h
  | some ks, h => let ⟨a, h1, h2⟩ := h; ⟨a, h1, h2.mono e⟩
theorem key_kp {H' : Hp} {s a : Addr} {ks : List KI} (n : ∀ xs, H s ≠ some (.tup xs)) (e : Kp s H H') (h : KeyAt H ks a) : KeyAt H' ks a := by
  obtain ⟨l, items, h1, h2⟩ := h
  refine ⟨l, items, e _ _ (fun z => n _ (z ▸ h1)) h1, Paired.mapP h2 fun k v q => ?_⟩
  cases k with
  | f k => exact q
  | t k => obtain ⟨b, e1, e2⟩ := q; exact ⟨b, e1, e _ _ (fun z => n _ (z ▸ e2)) e2⟩
theorem ndk_kp {H' : Hp} {s : Addr} {v : V} (n : ∀ xs, H s ≠ some (.tup xs)) (e : Kp s H H') : ∀ {k : Option (List KI)}, NdKey H v k → NdKey H' v k
  | none, h => h
  | some ks, h => let ⟨a, h1, h2⟩ := h; ⟨a, h1, key_kp n e h2⟩
theorem ndk_lay {v : V} : ∀ {k : Option (List KI)}, NdKey H v k → SeqAt.shaped (keyData k) = true
  | none, h => (shp_non (n := 0)).ok
  | some ks, h => by
    obtain ⟨a, _, l, _⟩ := h
    exact Shp.ok (n := 2) ⟨l, nkD_depth ks⟩
end
theorem eqv_key (a : List KI) : ∀ k : Option (List KI), PyData.eqv (nkD a) (keyData k) = decide (k = some a)
  | none => by simp [keyData, nkD, PyData.eqv]
  | some b => by
    show PyData.eqv (nkD a) (nkD b) = _
    rw [nkD_eqv]
    by_cases h : a = b
    · subst h; simp
    · rw [decide_eq_false h, decide_eq_false (fun e => h (Option.some.inj e).symm)]
/-! pairs -/
def PairsAt (H : Hp) (L : Addr) (xs : NdX) : Prop := ∃ ps : List Addr, H L = some (.lst (ps.map V.ref)) ∧ Paired (fun (t : Addr) (q : List KI × Addr × V) => H t = some (.lst [.ref q.2.1, q.2.2])) ps xs
theorem PairsAt.mono {H H' : Hp} {L : Addr} {xs : NdX} (e : Same H H') (h : PairsAt H L xs) : PairsAt H' L xs := let ⟨ps, h1, h2⟩ := h; ⟨ps, e _ _ h1, Paired.mapP h2 fun _ _ q => e _ _ q⟩
def OkX (q : List KI × Addr × V) : Prop := Shw 620 3 (nkD q.1) ∧ ∃ i, q.2.2 = .int i ∧ Small i
def OkKey (k : Option (List KI)) : Prop := ∀ ks, k = some ks → Shw 620 3 (nkD ks)
def Mem (P : Program) (w : World) (C : Addr) (H : Hp) (x d L : Addr) (n : Int) (xs : NdX) : Prop := MemoAt P w C H x d n xs ∧ PairsAt H L xs ∧ ∀ q ∈ xs, OkX q
theorem MemoAt.mono {P : Program} {w : World} {C : Addr} {H H' : Hp} {x d : Addr} {n : Int} {xs : NdX} (e : Same H H') (h : MemoAt P w C H x d n xs) : MemoAt P w C H' x d n xs := let ⟨⟨dx, h1⟩, h2, h3⟩ := h; ⟨⟨dx, e _ _ h1⟩, e _ _ h2, h3.mono e⟩
theorem Mem.mono {P : Program} {w : World} {C : Addr} {H H' : Hp} {x d L : Addr} {n : Int} {xs : NdX} (e : Same H H') (h : Mem P w C H x d L n xs) : Mem P w C H' x d L n xs := ⟨h.1.mono e, h.2.1.mono e, h.2.2⟩
theorem look_cons (q : List KI × Addr × V) (r : NdX) (k : Option (List KI)) : lookO (q :: r) k = if k = some q.1 then some q.2.2 else lookO r k := by
  cases k with
  | none => simp [lookO]
  | some ks =>
    show lookN (q :: r) ks = if some ks = some q.1 then some q.2.2 else lookN r ks
    unfold lookN
    rw [List.find?_cons]
    by_cases h : q.1 = ks
    · rw [decide_eq_true h, if_pos (by rw [h])]; rfl
    · rw [decide_eq_false h, if_neg (fun e => h (Option.some.inj e).symm)]
def spFound : Sp := fun vs H Q _ => ∃ (L : Addr) (v : V) (xs : NdX) (k : Option (List KI)), vs = [.ref L, v] ∧ PairsAt H L xs ∧ AllK H xs ∧ NdKey H v k ∧ ∀ H', Same H H' → Q ((lookO xs k).getD .non) H'
def spToken : Sp := fun vs H Q _ => ∃ (p c : Addr) (k : Nat), vs = [.ref p] ∧ Pen H p c k ∧ k ≤ 80000 ∧ ∀ H' r v key, Kp p H H' → Pen H' p c (k + 20) → H r = none → H' r = some (.lst [.bl true, v]) → NdKey H' v key → OkKey key → Q (.ref r) H'
theorem paired_at {α β : Type} {R : α → β → Prop} : ∀ {xs : List α} {ys : List β} {i : Nat} {x : α}, Paired R xs ys → xs[i]? = some x → ∃ y, ys[i]? = some y ∧ R x y
  | _, _, _, _, .nil, h => by simp at h
  | _, _, 0, _, .cons a _, h => by simp at h; subst h; exact ⟨_, rfl, a⟩
  | _, _, i + 1, _, .cons _ t, h => by simp at h; obtain ⟨y, h1, h2⟩ := paired_at t h; exact ⟨y, by simpa using h1, h2⟩
theorem paired_app {α β : Type} {R : α → β → Prop} : ∀ {xs us : List α} {ys vs : List β}, Paired R xs ys → Paired R us vs → Paired R (xs ++ us) (ys ++ vs)
  | _, _, _, _, .nil, t => t
  | _, _, _, _, .cons a r, t => .cons a (paired_app r t)
theorem drop_at {α : Type} {xs : List α} {i : Nat} {x : α} (h : xs[i]? = some x) : xs.drop i = x :: xs.drop (i + 1) := by
  obtain ⟨hi, e⟩ := List.getElem?_eq_some_iff.mp h
  rw [List.drop_eq_getElem_cons hi, e]
theorem at_ref {l : List Addr} {i : Nat} {y : V} (e : (l.map V.ref)[i]? = some y) : ∃ b, l[i]? = some b ∧ y = V.ref b := by
  rw [List.getElem?_map] at e
  cases q : l[i]? with
  | none => rw [q] at e; cases e
  | some b => rw [q] at e; exact ⟨b, rfl, (Option.some.inj e).symm⟩
section
variable {P : Program} {w : World} {K : PySem.W.Frag} {mg : Str → Option Value} {base : Heap}
/-- l[take(pen, n)] -/
theorem pick {ta : TA} {σ : L2.St} {H : Hp} {p c : Addr} {k j : Nat} {E : XK} {xs : List V} {n : Int} {Q : VK} (hx : EvA ta σ H xs) (hσ : σ[j]? = some (some (.ref p))) (hP : Pen H p c k) (hk : k ≤ 100000) (hn : (xs.length : Int) = n) (h0 : 0 < n) (h1 : n ≤ 1000)
    (kont : ∀ H' v, v ∈ xs → Kp p H H' → Pen H' p c (k + 1) → Q v H') : tOp (rIxL K) (tLst ta) (tCall spTake [] E (tCons (tVar j) (tCons (tC (.int n)) tNil))) σ H Q := by
  refine el_lst hx (by omega) H (Ex.refl H) _ fun l H1 hl X1 hl1 => ?_
  refine ⟨_, hσ, p, c, n, k, rfl, hP.mono X1, hk, h0, h1, fun H2 d K2 P2 d0 d1 => ?_⟩
  have hd : d.toNat < xs.length := by omega
  refine ⟨l, _, _, _, rfl, rfl, SqL.of (K2 _ _ (hP.ne hl) hl1), at_of (j := d.toNat) (by omega) (List.getElem?_eq_getElem hd), ?_⟩
  exact kont _ _ (List.getElem_mem hd) (Kp.trans (Kp.of X1) K2) P2
theorem take1 {σ : L2.St} {H : Hp} {p c : Addr} {k j : Nat} {E : XK} {n : Int} {Q : VK} (hσ : σ[j]? = some (some (.ref p))) (hP : Pen H p c k) (hk : k ≤ 100000) (h0 : 0 < n) (h1 : n ≤ 1000)
    (kont : ∀ H' d, Kp p H H' → Pen H' p c (k + 1) → 0 ≤ d → d < n → Q (.int d) H') : tCall spTake [] E (tCons (tVar j) (tCons (tC (.int n)) tNil)) σ H Q :=
  ⟨_, hσ, p, c, n, k, rfl, hP, hk, h0, h1, kont⟩
theorem ok_found (T : Txt K mg) : FnOk P w K mg base CX0 1 T.f_found T.d_found P_found spFound := by
  refine T.F_found.ok sc_found (fun vs H Q E h => ?_) (fun cdv A outer s H vs Q E hr h => ?_)
  · obtain ⟨L, v, xs, k, rfl, _⟩ := h
    rfl
  · obtain ⟨L, v, xs, k, rfl, ⟨ps, hL, hp⟩, ha, hk, kont⟩ := h
    refine ⟨_, (pss_cons (ps_for PassesOwn.never rfl (pi_list (pv 0)) (pg_name (i := 2) sc_found.nd rfl (Or.inl rfl)) (pss_one (ps_if (pt_cmpR (op_eqD hr.units) (pe_ix ix_list (pv 2) pe_int (fun _ _ => rfl)) (pv 1) (nomark _)) (pss_one (ps_ret (pe_ix ix_list (pv 2) pe_int (fun _ _ => rfl)))) pss_nil)))
      (pss_one (ps_ret pe_non))), ?_⟩
    have hlen : ps.length = xs.length := Paired.length hp
    refine q_forLn (K := K) (ev_var rfl) (sq_of hL) (fun i σ H' => ∃ v2, σ = [some (.ref L), some v, v2] ∧ Same H H' ∧ lookO xs k = lookO (xs.drop i) k) (fun H1 X1 => ⟨none, rfl, X1, by rw [List.drop_zero]⟩) (fun i σ H' _ ⟨_, _, S, _⟩ => sq_of (S _ _ hL)) ?_ ?_
    · rintro i y σ H' hy ⟨v2, rfl, S, e⟩
      obtain ⟨b, hb, rfl⟩ := at_ref hy
      obtain ⟨q, hq, hbq⟩ := paired_at hp hb
      have hq' : q ∈ xs := List.mem_of_getElem? hq
      have hbl := S _ _ hbq
      rw [drop_at hq, look_cons] at e
      refine s_when (et_test (ev_op (ev_op (ev_var rfl) ev_c (rv_ixL (v := .ref q.2.1) (sq_of hbl) rfl)) (ev_var rfl) (rv_eqD (fun H1 X1 => dp_key ((ha q hq').mono (S.trans X1))) (fun H1 X1 => dp_ndk (ndk_mono (k := k) (S.trans X1) hk)) (Shp.ok (n := 2) ⟨(ha q hq').1, nkD_depth _⟩) (ndk_lay (k := k) hk)))) (fun c H1 X1 => ?_) (fun c H1 X1 => ?_)
      · rw [eqv_key] at c
        rw [if_pos (of_decide_eq_true c)] at e
        refine s_ret (v := q.2.2) (ev_op (ev_var rfl) ev_c (rv_ixL (sq_of (X1 _ _ hbl)) rfl)) fun H2 X2 => ?_
        have := kont H2 (S.trans (X1.trans X2))
        rw [e] at this
        exact this
      · rw [eqv_key] at c
        rw [if_neg (of_decide_eq_false c)] at e
        exact ⟨_, rfl, S.trans X1, e⟩
    · rintro σ H' ⟨v2, rfl, S, e⟩
      rw [List.length_map, hlen, List.drop_length] at e
      refine s_ret ev_c fun H2 X2 => ?_
      have := kont H2 (S.trans X2)
      rw [e] at this
      cases k <;> exact this
def gK {α : Type} : List α → List α → List α
  | [a, b, c], [d] => [a, b, c, d]
  | _, _ => []
theorem gK_len {α : Type} {us ws : List α} (h : (gK us ws).length = 4) : ∃ a b c d, us = [a, b, c] ∧ ws = [d] := by
  unfold gK at h
  split at h
  · exact ⟨_, _, _, _, rfl, rfl⟩
  · cases h
theorem gK_rel {vs : List V} {us : List Value} {zs : List V} {ws : List Value} (r : Vals vs us) (z : Vals zs ws) : Vals (gK vs zs) (gK us ws) := by
  cases r with
  | nil => exact .nil
  | cons a r => cases r with
    | nil => exact .nil
    | cons b r => cases r with
      | nil => exact .nil
      | cons c r => cases r with
        | cons d r => exact .nil
        | nil => cases z with
          | nil => exact .nil
          | cons d z => cases z with
            | nil => exact .cons a (.cons b (.cons c (.cons d .nil)))
            | cons e z => exact .nil
theorem kb_key {K : PySem.W.Frag} {f : Addr} {fd : FuncData} (F : Fun K "memo_key" "memo_key" s_memo_key f fd) : KBinds K fd P_memo_key ["marks"] gK gK := by
  obtain ⟨oc, od, kV, doc, pm, an, cdv, ct, osl, rfl, lk, hcd⟩ := F.ex
  refine ⟨fun s us ws _ hl => ?_, gK_rel⟩
  obtain ⟨a, b, c, d, rfl, rfl⟩ := gK_len (show (gK us ws).length = 4 from hl)
  exact .of_eq rfl
theorem shw_itself {t : Int} (h : Small t) : Shw 620 3 (nkD (kItself t)) := by
  have e1 : (("itself" : Str)).cps.size = 6 := by decide +kernel
  have s1 : Shw 6 2 (.str "itself") := e1 ▸ sw_str (by decide +kernel)
  exact (sw_tup (m := 2) (sw_cons s1 (sw_cons (sw_int h.log) sw_nil))).le (by decide) (by decide)
theorem shw_marks {n : Str} {ms : List Int} (h : ∀ m ∈ ms, Small m) (hl : ms.length ≤ 3) (hn : n.cps.toList.all (fun c => decide (c < 16 ^ 8)) = true) (hz : n.cps.size ≤ 5) : Shw 620 3 (nkD (kMarks n ms)) := by
  have e1 : (("marks" : Str)).cps.size = 5 := by decide +kernel
  have s1 : Shw 5 2 (.str "marks") := e1 ▸ sw_str (by decide +kernel)
  have s3 : Shw (201 * ms.length) 2 (.tuple ((ms.map (Sum.inl : Int → Key)).map keyD)) := by
    have := sw_tup (sw_all (a := 200) (m := 1) (ds := (ms.map (Sum.inl : Int → Key)).map keyD) fun d hd => by
      rw [List.map_map] at hd
      obtain ⟨m, hm, rfl⟩ := List.mem_map.mp hd
      exact sw_int (h m hm).log)
    simpa using this
  refine (sw_tup (m := 2) (sw_cons s1 (sw_cons (sw_str hn) (sw_cons s3 sw_nil)))).le ?_ (by decide)
  omega
end
end K24

namespace K24
open PySem L2 Way Evl
theorem Small.of {z : Int} (h1 : -100000 < z) (h2 : z < 100000) : Small z := ⟨by omega, by omega⟩
section
variable {P : Program} {w : World} {K : PySem.W.Frag} {mg : Str → Option Value} {base : Heap}
set_option maxHeartbeats 8000000 in
theorem ok_token (T : Txt K mg) : FnG P w K mg base CX0 3 T.f_token T.d_token P_token spToken := by
  have G_take := ok_take (P := P) (w := w) (base := base) T
  have G_number := ok_number (P := P) (w := w) (base := base) T
  have G_memo_key := ok_memo_key (P := P) (w := w) (base := base) T
  have kb_memo_key_0 := kb_key T.F_memo_key
  refine okG T.F_token sc_token (fun vs H Q E h => ?_) (fun cdv A outer s H vs Q E hgd hr h => ?_)
  · obtain ⟨p, c, k, rfl, _⟩ := h
    rfl
  · obtain ⟨p, c, k, rfl, hP, hk, kont⟩ := h
    refine ⟨_, (pss_cons (ps_set (i := 1) sc_token.nd rfl (Or.inl rfl) (pe_ix ix_list (pe_lst (pa_cons pe_str (pa_cons pe_str (pa_cons pe_str (pa_cons pe_str (pa_cons pe_str pa_nil)))))) (pe_call G_take (hr.mono (by decide)) (by rfl) T.g_take T.F_take.kp T.B_take .nil pass0 (pa_cons (pv 0) (pa_cons pe_int pa_nil))) (fun _ _ => rfl)))
      (pss_cons (ps_set (i := 2) sc_token.nd rfl (Or.inl rfl) (pe_op op_add (pe_ix ix_list (pe_lst (pa_cons pe_int (pa_cons pe_int (pa_cons pe_int (pa_cons pe_int pa_nil))))) (pe_call G_take (hr.mono (by decide)) (by rfl) T.g_take T.F_take.kp T.B_take .nil pass0 (pa_cons (pv 0) (pa_cons pe_int pa_nil))) (fun _ _ => rfl)) (pe_call G_take (hr.mono (by decide)) (by rfl) T.g_take T.F_take.kp T.B_take .nil pass0 (pa_cons (pv 0) (pa_cons pe_int pa_nil)))))
      (pss_cons (ps_set (i := 3) sc_token.nd rfl (Or.inl rfl) (pe_ix ix_list (pe_lst (pa_cons pe_str (pa_cons pe_str (pa_cons pe_str (pa_cons pe_str pa_nil))))) (pe_call G_take (hr.mono (by decide)) (by rfl) T.g_take T.F_take.kp T.B_take .nil pass0 (pa_cons (pv 0) (pa_cons pe_int pa_nil))) (fun _ _ => rfl)))
      (pss_cons (ps_setLc (i := 4) (own := [("_law_turn", 8)]) (g := gName 8) (by rfl) sc_token.nd rfl rfl (sw_true rfl rfl rfl (by decide +kernel)) (pi_range1 (by rfl) T.b_range (pa_cons (pe_call G_take (hr.mono (by decide)) (by rfl) T.g_take T.F_take.kp T.B_take .nil pass0 (pa_cons (pv 0) (pa_cons pe_int pa_nil))) pa_nil)) (blkOk_by (own := [("_law_turn", 8)]) (N := N_token) (sc := defScope s_token) (by decide +kernel)) (fun _ _ _ _ _ => (pg_name (i := 8) sc_token.nd rfl (Or.inl rfl))) (fun _ _ _ _ _ => pts_nil) (fun _ _ _ _ _ => (pe_call G_number hr (by rfl) T.g_number T.F_number.kp T.B_number .nil pass0 (pa_cons (pv 0) pa_nil))))
      (pss_cons (ps_set (i := 5) sc_token.nd rfl (Or.inl rfl) (pe_callTy call_list_of (by rfl) T.b_list (by decide +kernel) (pa_cons (pv 4) pa_nil)))
      (pss_cons (ps_set (i := 6) sc_token.nd rfl (Or.inl rfl) (pe_callK G_memo_key (hr.mono (by decide)) (by rfl) T.g_memo_key T.F_memo_key.kp kb_memo_key_0 pass0 (pa_cons (pv 1) (pa_cons (pv 2) (pa_cons (pv 3) pa_nil))) (pk_cons (pv 5) pk_nil)))
      (pss_cons (ps_if (pt_cmpR (op_neD hr.units) (pv 5) (pv 4) (nomark _)) (pss_one (ps_ret (pe_lst (pa_cons pe_bl (pa_cons (pv 6) pa_nil))))) pss_nil)
      (pss_cons (ps_expr (pe_bm PySem.F.plainAttrs_list PySem.F.slot_list_append PySem.F.type_list_append mt_append (pv 5) (pa_cons pe_int pa_nil)))
      (pss_cons (ps_set (i := 7) sc_token.nd rfl (Or.inl rfl) pe_non)
      (pss_cut (ps_if (pt_cmpR op_eq (pv 1) pe_str (nomark _)) (pss_one (ps_set (i := 7) sc_token.nd rfl (Or.inl rfl) (pe_tup (pa_cons pe_str (pa_cons (pv 2) pa_nil))))) pss_nil)
      (pss_cut (ps_if (pt_cmpR op_eq (pv 1) pe_str (nomark _)) (pss_one (ps_set (i := 7) sc_token.nd rfl (Or.inl rfl) (pe_tup (pa_cons pe_str (pa_cons (pv 3) (pa_cons (pe_callTy call_tuple_of (by rfl) T.b_tuple (by decide +kernel) (pa_cons (pv 4) pa_nil)) pa_nil)))))) pss_nil)
      (pss_one (ps_ret (pe_lst (pa_cons (pe_cmpR op_eq (pe_callB (Way.call_reprO hgd hr) (by rfl) T.b_repr (by decide +kernel) (pa_cons (pv 6) pa_nil)) (pe_callB (Way.call_reprO hgd hr) (by rfl) T.b_repr (by decide +kernel) (pa_cons (pv 7) pa_nil)) (nomark _)) (pa_cons (pv 7) pa_nil)))))))))))))))), ?_⟩
    -- rule
    refine pick (xs := [.str "itself", .str "marks", .str "never", .str "marks", .str "itself"]) (ea_cons ev_c (ea_cons ev_c (ea_cons ev_c (ea_cons ev_c (ea_cons ev_c ea_nil))))) rfl hP (by omega) rfl (by decide) (by decide) fun H1 v hv K1 P1 => ?_
    obtain ⟨rule, rfl⟩ : ∃ rule, v = .str rule := by
      simp only [List.mem_cons, List.not_mem_nil, or_false] at hv
      rcases hv with rfl | rfl | rfl | rfl | rfl <;> exact ⟨_, rfl⟩
    clear hv
    -- thing
    refine pick (xs := [.int 0, .int 0, .int 1, .int 3999]) (ea_cons ev_c (ea_cons ev_c (ea_cons ev_c (ea_cons ev_c ea_nil)))) rfl P1 (by omega) rfl (by decide) (by decide) fun H2 v hv K2 P2 => ?_
    obtain ⟨t0, rfl, t1, t2⟩ : ∃ t : Int, v = .int t ∧ 0 ≤ t ∧ t ≤ 3999 := by
      simp only [List.mem_cons, List.not_mem_nil, or_false] at hv
      rcases hv with rfl | rfl | rfl | rfl <;> exact ⟨_, rfl, by decide, by decide⟩
    clear hv
    refine take1 rfl P2 (by omega) (by decide) (by decide) fun H3 e K3 P3 e0 e1 => ?_
    refine ⟨_, _, rfl, rfl, ?_⟩
    have ht : Small (t0 + e) := Small.of (by omega) (by omega)
    have ev : (fun (i j : Int) => V.int (i + j)) t0 e = V.int (t0 + e) := rfl
    rw [ev]
    revert ht
    generalize t0 + e = t
    intro ht
    -- name
    refine pick (xs := [.str "Box", .str "Bo", .str "B", .str "Boxes"]) (ea_cons ev_c (ea_cons ev_c (ea_cons ev_c (ea_cons ev_c ea_nil)))) rfl P3 (by omega) rfl (by decide) (by decide) fun H4 v hv K4 P4 => ?_
    obtain ⟨n, rfl, n1, n2, n3⟩ : ∃ n : Str, v = .str n ∧ PyData.strOk n = true ∧ n.cps.toList.all (fun c => decide (c < 16 ^ 8)) = true ∧ n.cps.size ≤ 5 := by
      simp only [List.mem_cons, List.not_mem_nil, or_false] at hv
      rcases hv with rfl | rfl | rfl | rfl <;> exact ⟨_, rfl, by decide +kernel, by decide +kernel, by decide +kernel⟩
    clear hv
    -- worths
    refine take1 rfl P4 (by omega) (by decide) (by decide) fun H5 z K5 P5 z0 z1 => ?_
    have K05 : Kp p H H5 := Kp.trans K1 (Kp.trans K2 (Kp.trans K3 (Kp.trans K4 K5)))
    refine ⟨z, rfl, by omega, by omega, fun D hD => lc_range (lo := 0) (n := z.toNat) (fun i H' => ∃ ms : List Int, Kp p H5 H' ∧ Pen H' p c (k + 5 + 2 * i) ∧ H' D = some (.lst (ms.map V.int)) ∧ ms.length = i ∧ ∀ m ∈ ms, Small m) ?_ ?_ ?_⟩
    · have nD := P5.ne hD
      exact ⟨[], Kp.new (Kp.refl p H5) hD, P5.upd nD (P5.neC hD), upd_same, rfl, fun m hm => by cases hm⟩
    · rintro i H' hi ⟨ms, Ka, Pa, hDa, la, ma⟩
      have nD := P5.ne hD
      refine ⟨rfl, ?_⟩
      refine ⟨_, rfl, p, c, _, rfl, Pa, by omega, fun H6 y K6 P6 hy => ?_⟩
      have h6 := K6 _ _ nD hDa
      refine ⟨_, h6, by simp; exact Nat.lt_of_lt_of_le (show ms.length < 1000 by omega) (by decide), ms ++ [y], Kp.new (Kp.trans Ka K6) hD, ?_, ?_, ?_, ?_⟩
      · exact (P6.upd nD (P5.neC hD)).le (by omega)
      · rw [upd_same, List.map_append]; rfl
      · simp; omega
      · intro m hm
        rcases List.mem_append.mp hm with q | q
        · exact ma m q
        · rw [List.mem_singleton.mp q]; exact hy
    rintro H6 ⟨ms, K6, P6, hDl, lm, hms⟩
    have lm3 : ms.length ≤ 3 := by omega
    have nD := P5.ne hD
    have K06 : Kp p H H6 := Kp.trans K05 K6
    -- handed
    refine ⟨_, rfl, D, _, rfl, .inl (SqL.of hDl), fun h hh => ?_⟩
    have X7 : Same H6 (upd H6 h (.lst (ms.map V.int))) := Same.new' (Same.refl _) hh
    have h7 : (upd H6 h (.lst (ms.map V.int))) h = some (.lst (ms.map V.int)) := upd_same
    revert X7 h7
    generalize upd H6 h (.lst (ms.map V.int)) = H7
    intro X7 h7
    -- told
    refine ⟨_, rfl, _, rfl, _, rfl, _, rfl, rule, n, t, h, ms, rfl, h7, by omega, n1, fun H8 told X8 hkey => ?_⟩
    have h8 := X8 _ _ h7
    have hD8 := X8 _ _ (X7 _ _ hDl)
    have P8 := (P6.mono X7).mono X8
    have nhp : h ≠ p := P6.ne hh
    have nhc : h ≠ c := P6.neC hh
    have nDh : D ≠ h := ne_of_none hDl hh
    refine q_when (et_test (ev_op (ev_var rfl) (ev_var rfl) (rv_neD (fun H1 X1 => .lst (sq_of (X1 _ _ h8)) (dp_ints ms)) (fun H1 X1 => .lst (sq_of (X1 _ _ hD8)) (dp_ints ms)) (shp_lst (n := 0) fun d hd => by obtain ⟨b, _, rfl⟩ := List.mem_map.mp hd; exact shp_int).ok (shp_lst (n := 0) fun d hd => by obtain ⟨b, _, rfl⟩ := List.mem_map.mp hd; exact shp_int).ok))) (fun q H9 X9 => ?_) (fun q H9 X9 => ?_)
    · rw [(shp_lst (n := 0) fun d hd => by obtain ⟨b, _, rfl⟩ := List.mem_map.mp hd; exact shp_int).same] at q
      cases q
    · have h9 := X9 _ _ h8
      refine q_app (v := .int 0) h9 (ev_var rfl) ev_c (by simp; omega) fun H10 X10 => ?_
      have key10 : NdKey (upd H10 h (.lst (ms.map V.int ++ [.int 0]))) told (keyOf rule t n ms) := by
        refine ndk_kp (s := h) (h9 ▸ by simp) (Kp.set (Kp.of X10)) (ndk_mono X9 hkey)
      have P10 : Pen (upd H10 h (.lst (ms.map V.int ++ [.int 0]))) p c (k + 5 + 2 * z.toNat) := ((P8.mono X9).mono X10).upd nhp nhc
      have K10 : Kp p H (upd H10 h (.lst (ms.map V.int ++ [.int 0]))) := Kp.new (Kp.trans K06 (Kp.of (X7.trans (X8.trans (X9.trans X10))))) (K06.free nhp hh)
      have hD10 : (upd H10 h (.lst (ms.map V.int ++ [.int 0]))) D = some (.lst (ms.map V.int)) := (upd_ne nDh).trans (X10 _ _ (X9 _ _ hD8))
      revert key10 P10 K10 hD10
      generalize upd H10 h (.lst (ms.map V.int ++ [.int 0])) = H11
      intro key11 P11 K11 hD11
      refine q_asg ev_c fun H12 X12 => ?_
      refine q_cut (M := fun σ' H' => ∃ dv, σ' = [some (.ref p), some (.str rule), some (.int t), some (.str n), some (.ref D), some (.ref h), some told, some dv, none] ∧ Ex H11 H' ∧ NdKey H' dv (if rule = "itself" then some (kItself t) else none)) ?_ ?_
      · refine s_when (et_test (ev_op (ev_var rfl) ev_c (rv_eq rfl))) (fun q H13 X13 => ?_) (fun q H13 X13 => ?_)
        · have e : rule = "itself" := by simpa using q
          refine s_asgU (eu_tup (vs := [.str "itself", .int t]) (ea_cons ev_c (ea_cons (ev_var rfl) ea_nil)) (by show 2 ≤ 100000; decide)) fun a H14 ha X14 h14 => ⟨_, rfl, X12.trans (X13.trans X14), ?_⟩
          rw [if_pos e]
          exact ⟨a, rfl, lay_itself t, _, h14, .cons rfl (.cons rfl .nil)⟩
        · have e : ¬ rule = "itself" := by simpa using q
          refine ⟨_, rfl, X12.trans X13, ?_⟩
          rw [if_neg e]
          rfl
      · rintro σ' H13 ⟨dv, rfl, X13, key13⟩
        refine q_cut (M := fun σ' H' => ∃ dv, σ' = [some (.ref p), some (.str rule), some (.int t), some (.str n), some (.ref D), some (.ref h), some told, some dv, none] ∧ Ex H11 H' ∧ NdKey H' dv (keyOf rule t n ms)) ?_ ?_
        · refine s_when (et_test (ev_op (ev_var rfl) ev_c (rv_eq rfl))) (fun q H14 X14 => ?_) (fun q H14 X14 => ?_)
          · have f : rule = "marks" := by simpa using q
            have e : ¬ rule = "itself" := by rw [f]; decide +kernel
            refine ⟨_, rfl, _, rfl, D, _, rfl, .inl ⟨SqL.of (X14 _ _ (X13 _ _ hD11)), fun a ha => ?_⟩⟩
            refine ⟨by show 3 ≤ sizeLine; decide, fun b hb => ?_⟩
            refine ⟨_, rfl, Same.new' (Same.new' (X13.trans X14) ha) hb, ?_⟩
            unfold keyOf
            rw [if_neg e, if_pos f]
            refine ⟨b, rfl, lay_marks n1 ms, _, upd_same, .cons rfl (.cons rfl (.cons ⟨a, rfl, ?_⟩ .nil))⟩
            rw [map_kV, upd_ne (ne_of_none upd_same hb), upd_same]
          · have f : ¬ rule = "marks" := by simpa using q
            refine ⟨_, rfl, X13.trans X14, ?_⟩
            unfold keyOf
            by_cases e : rule = "itself"
            · rw [if_pos e]
              rw [if_pos e] at key13
              exact ndk_mono X14 key13
            · rw [if_neg e, if_neg f]
              rw [if_neg e] at key13
              exact key13
        · rintro σ' H14 ⟨du, rfl, X14, key14⟩
          have okk : OkKey (keyOf rule t n ms) := by
            intro ks hks
            unfold keyOf at hks
            split at hks
            · cases hks; exact shw_itself ht
            · split at hks
              · cases hks; exact shw_marks hms lm3 n2 n3
              · cases hks
          have sd : Shw 620 3 (keyData (keyOf rule t n ms)) := by
            cases e : keyOf rule t n ms with
            | none => exact (sw_non (m := 0)).le (by decide) (by decide)
            | some ks => exact okk ks e
          have isr : ∀ {v : V} {H' : Hp}, NdKey H' v (keyOf rule t n ms) → v = .non ∨ ∃ a, v = .ref a := by
            intro v H' h
            cases e : keyOf rule t n ms with
            | none => rw [e] at h; exact .inl h
            | some ks => rw [e] at h; obtain ⟨a, h1, _⟩ := h; exact .inr ⟨a, h1⟩
          have keyT := ndk_mono X14 key11
          refine ⟨_, rfl, told, _, 620, 3, rfl, isr keyT, dp_ndk keyT, sd, by decide, by decide, _, rfl, du, _, 620, 3, rfl, isr key14, dp_ndk key14, sd, by decide, by decide, rfl, _, rfl, by show 2 ≤ sizeLine; decide, fun r hr' => ?_⟩
          have S : Same H14 (upd H14 r (.lst [.bl true, du])) := Same.new' (Same.refl _) hr'
          show Q (.ref r) (upd H14 r (.lst [.bl (decide (V.str _ = V.str _)), du]))
          rw [decide_eq_true rfl]
          have P14 := (P11.mono X14)
          refine kont _ r du (keyOf rule t n ms) (Kp.trans K11 (Kp.of (X14.trans S))) ((P14.mono S).le (by omega)) ((Kp.trans K11 (Kp.of X14)).free (P14.ne hr') hr') upd_same (ndk_mono S key14) okk
end
end K24

namespace K24
open PySem L2 Way Evl
def valD : V → PyData
  | .int i => .int i
  | _ => .none
def pairD (q : List KI × Addr × V) : PyData := .tuple [nkD q.1, valD q.2.2]
section
variable {K : PySem.W.Frag} {H : Hp}
theorem dp_pairs : ∀ {ts : List Addr} {xs : NdX}, (∀ q ∈ xs, OkX q) → AllK H xs → Paired (fun (t : Addr) (q : List KI × Addr × V) => H t = some (.tup [.ref q.2.1, q.2.2])) ts xs → DpAll K H (ts.map V.ref) (xs.map pairD)
  | _, _, _, _, .nil => .nil
  | t :: ts, q :: xs, ho, ha, .cons e r => by
    obtain ⟨_, i, hi, _⟩ := ho q (List.mem_cons_self ..)
    have e2 : valD q.2.2 = .int i := by rw [hi]; rfl
    refine .cons ?_ (dp_pairs (fun x hx => ho x (List.mem_cons_of_mem _ hx)) (fun x hx => ha x (List.mem_cons_of_mem _ hx)) r)
    unfold pairD
    rw [e2]
    rw [hi] at e
    exact .tup (SqT.of e) (.cons (dp_key (ha q (List.mem_cons_self ..))) (.cons (.int i) .nil))
end
theorem shw_pairs {xs : NdX} (ho : ∀ q ∈ xs, OkX q) (hl : xs.length ≤ 41) : Shw 40000 60 (.list (xs.map pairD)) := by
  have h : ShwA ((822 + 1) * (xs.map pairD).length) 4 (xs.map pairD) := sw_all fun d hd => by
    obtain ⟨q, hq, rfl⟩ := List.mem_map.mp hd
    obtain ⟨s1, i, hi, sm⟩ := ho q hq
    have e2 : valD q.2.2 = .int i := by rw [hi]; rfl
    unfold pairD
    rw [e2]
    exact (sw_tup (sw_cons s1 (sw_cons (sw_int sm.log) sw_nil))).le (by decide) (by decide)
  refine (sw_lst h).le ?_ (by decide)
  rw [List.length_map]
  omega
def spRight (P : Program) (w : World) (C : Addr) : Sp := fun vs H Q _ => ∃ (x d L : Addr) (n : Int) (xs : NdX) (v : V) (k : Option (List KI)), vs = [.ref x, .ref L, v, .int n] ∧ Mem P w C H x d L n xs ∧ xs.length ≤ 41 ∧ NdKey H v k ∧ ∀ H', Same H H' → Q (.bl true) H'
section
variable {P : Program} {w : World} {K : PySem.W.Frag} {mg : Str → Option Value} {base : Heap}
theorem ev_meth {σ : L2.St} {H : Hp} {C : Addr} {m : Str} {sp : Sp} {dvs vs : List V} {E : XK} {ta : TE} {t : TA} {a dx : Addr} {fs : List (Str × V)} {z : V} (h : Ev ta σ H (.ref a)) (ha : H a = some (.ins C dx fs)) (hn : fs.lookup m = none) (ht : EvA t σ H vs) (hs : SpV sp (.ref a :: (vs ++ dvs)) H z) : Ev (tMeth C m sp dvs E ta t) σ H z := fun H1 e Q q =>
  h H1 e _ fun H2 e2 => ⟨a, dx, fs, rfl, (e.trans e2) _ _ ha, hn, ht H2 (e.trans e2) _ fun H3 e3 => hs H3 ((e.trans e2).trans e3) _ (fun H4 e4 => q H4 (e2.trans (e3.trans e4))) E⟩
theorem ev_fld {σ : L2.St} {H : Hp} {ta : TE} {f : Str} {a C dx : Addr} {fs : List (Str × V)} {v : V} (h : Ev ta σ H (.ref a)) (ha : H a = some (.ins C dx fs)) (c : Cls K C) (n : NoAttr K C f) (hv : fs.lookup f = some v) : Ev (tFld K ta f) σ H v := fun H1 e Q q =>
  h H1 e _ fun H2 e2 => ⟨a, C, dx, fs, v, rfl, (e.trans e2) _ _ ha, c, n, hv, q H2 e2⟩
theorem look_scal {xs : NdX} (ho : ∀ q ∈ xs, OkX q) (k : Option (List KI)) : scal ((lookO xs k).getD .non) ((lookO xs k).getD .non) = true := by
  cases k with
  | none => rfl
  | some ks =>
    show scal ((lookN xs ks).getD .non) ((lookN xs ks).getD .non) = true
    unfold lookN
    cases e : xs.find? (fun x => decide (x.1 = ks)) with
    | none => rfl
    | some q =>
      obtain ⟨_, i, hi, _⟩ := ho q (List.mem_of_find?_eq_some e)
      show scal q.2.2 q.2.2 = true
      rw [hi]
      rfl
theorem look_none {xs : NdX} (ho : ∀ q ∈ xs, OkX q) (k : Option (List KI)) : (!decide ((lookO xs k).getD .non = .non)) = (lookO xs k).isSome := by
  cases k with
  | none => rfl
  | some ks =>
    show (!decide ((lookN xs ks).getD .non = .non)) = (lookN xs ks).isSome
    unfold lookN
    cases e : xs.find? (fun x => decide (x.1 = ks)) with
    | none => rfl
    | some q =>
      obtain ⟨_, i, hi, _⟩ := ho q (List.mem_of_find?_eq_some e)
      show (!decide (q.2.2 = .non)) = true
      rw [hi]
      rfl
set_option maxHeartbeats 8000000 in
theorem ok_right (T : Txt K mg) : FnG P w K mg base CX0 6 T.f_right T.d_right P_right (spRight P w T.C_Memo) := by
  have G_Memo_len := ok_len (P := P) (w := w) (base := base) T
  have G_Memo_contains := ok_contains (P := P) (w := w) (base := base) T
  have G_Memo_known := ok_known (P := P) (w := w) (base := base) T
  have G_Memo_kept := ok_kept (P := P) (w := w) (base := base) T
  have G_found := ok_found (P := P) (w := w) (base := base) T
  refine okG T.F_right sc_right (fun vs H Q E h => ?_) (fun cdv A outer s H vs Q E hgd hr h => ?_)
  · obtain ⟨x, d, L, n, xs, v, k, rfl, _⟩ := h
    rfl
  · obtain ⟨x, d, L, n, xs, v, k, rfl, M, hz, hk, kont⟩ := h
    obtain ⟨⟨⟨dx, hx⟩, hd, hA⟩, ⟨ps, hL, hp⟩, ho⟩ := id M
    have hlen : ps.length = xs.length := Paired.length hp
    refine ⟨_, (pss_cons (ps_if (PW.pt (pw_or (pt_cmpR op_ne (pe_callB (Way.call_lenO G_Memo_len T.m_Memo_len.at_ T.m_Memo_len.fn T.B_Memo_len pass0 (hr.mono (by decide))) (by rfl) T.b_len (by decide +kernel) (pa_cons (pv 0) pa_nil)) (pe_callB call_len_seq (by rfl) T.b_len (by decide +kernel) (pa_cons (pv 1) pa_nil)) (nomark _)) (pw_or (pt_cmpR op_ne (pe_fld (pv 0) rfl) (pv 3) (nomark _)) (pw_or1 (pt_val (pe_callB call_isi (by rfl) T.b_isinstance (by decide +kernel) (pa_cons (pe_callB (Way.call_lenO G_Memo_len T.m_Memo_len.at_ T.m_Memo_len.fn T.B_Memo_len pass0 (hr.mono (by decide))) (by rfl) T.b_len (by decide +kernel) (pa_cons (pv 0) pa_nil)) (pa_cons (pe_bltn (v := .ty "bool") (by rfl) T.b_bool (by decide +kernel) rfl) pa_nil)))))))) (pss_one (ps_ret pe_bl)) pss_nil)
      (pss_cons (ps_if (PW.pt (pw_or (pt_cmpR op_ne (pe_meth (pv 0) T.cl_Memo T.m_Memo_known G_Memo_known (hr.mono (by decide)) T.B_Memo_known .nil pass0 (pa_cons (pv 2) pa_nil)) (pe_call G_found (hr.mono (by decide)) (by rfl) T.g_found T.F_found.kp T.B_found .nil pass0 (pa_cons (pv 1) (pa_cons (pv 2) pa_nil))) (nomark _)) (pw_or1 (pt_cmpR op_ne (pe_cmpR (Way.op_inO G_Memo_contains T.m_Memo_contains.at_ T.m_Memo_contains.fn T.B_Memo_contains pass0 (hr.mono (by decide))) (pv 2) (pv 0) (by rfl)) (pe_cmpR op_notN (pe_call G_found (hr.mono (by decide)) (by rfl) T.g_found T.F_found.kp T.B_found .nil pass0 (pa_cons (pv 1) (pa_cons (pv 2) pa_nil))) pe_non (nomark _)) (nomark _))))) (pss_one (ps_ret pe_bl)) pss_nil)
      (pss_cons (ps_set (i := 4) sc_right.nd rfl (Or.inl rfl) (pe_meth0 (pv 0) T.cl_Memo T.m_Memo_kept G_Memo_kept (hr.mono (by decide)) T.B_Memo_kept .nil pass0))
      (pss_cons (ps_setLc (i := 5) (own := [("_law_pair", 6)]) (g := gName 6) (by rfl) sc_right.nd rfl rfl (sw_true rfl rfl rfl (by decide +kernel)) (pi_list (pv 1)) (blkOk_by (own := [("_law_pair", 6)]) (N := N_right) (sc := defScope s_right) (by decide +kernel)) (fun _ _ _ _ _ => (pg_name (i := 6) sc_right.nd rfl (Or.inl rfl))) (fun _ _ _ _ _ => pts_nil) (fun _ _ _ _ _ => (pe_tup (pa_cons (pe_ix (Way.kk_ixL (K := K)) (pv 6) pe_int (fun _ _ => rfl)) (pa_cons (pe_ix (Way.kk_ixL (K := K)) (pv 6) pe_int (fun _ _ => rfl)) pa_nil)))))
      (pss_cons (ps_if (PW.pt (pw_or (pt_not (pt_val (pe_callB call_isi (by rfl) T.b_isinstance (by decide +kernel) (pa_cons (pv 4) (pa_cons (pe_bltn (v := .ty "list") (by rfl) T.b_list (by decide +kernel) rfl) pa_nil))))) (pw_or1 (pt_cmpR op_ne (pe_callB (Way.call_reprO hgd hr) (by rfl) T.b_repr (by decide +kernel) (pa_cons (pv 4) pa_nil)) (pe_callB (Way.call_reprO hgd hr) (by rfl) T.b_repr (by decide +kernel) (pa_cons (pv 5) pa_nil)) (nomark _))))) (pss_one (ps_ret pe_bl)) pss_nil)
      (pss_cons (ps_expr (pe_bm PySem.F.plainAttrs_list PySem.F.slot_list_append PySem.F.type_list_append mt_append (pv 4) (pa_cons (pe_tup (pa_cons pe_non (pa_cons pe_int pa_nil))) pa_nil)))
      (pss_one (ps_ret (pe_cmpR op_eq (pe_callB (Way.call_reprO hgd hr) (by rfl) T.b_repr (by decide +kernel) (pa_cons (pe_meth0 (pv 0) T.cl_Memo T.m_Memo_kept G_Memo_kept (hr.mono (by decide)) T.B_Memo_kept .nil pass0) pa_nil)) (pe_callB (Way.call_reprO hgd hr) (by rfl) T.b_repr (by decide +kernel) (pa_cons (pv 5) pa_nil)) (nomark _)))))))))), ?_⟩
    have elen : ∀ H1, Ex H H1 → ∀ E', Ev (tCB (rLenO T.C_Memo (spLen P w T.C_Memo) E') (tCons (tVar 0) tNil)) [some (.ref x), some (.ref L), some v, some (.int n), none, none, none] H1 (.int (xs.length : Int)) := fun H1 X1 E' =>
      ev_cb (ea_cons (ev_var rfl) ea_nil) fun H2 X2 Q' q => ⟨x, dx, _, rfl, X2 _ _ (X1 _ _ hx), x, d, n, xs, rfl, (M.mono (X1.trans X2)).1, _, rfl, ⟨by omega, by omega⟩, q H2 (Ex.refl H2)⟩
    have efound : ∀ H1, Ex H H1 → ∀ E', Ev (tCall spFound [] E' (tCons (tVar 1) (tCons (tVar 2) tNil))) [some (.ref x), some (.ref L), some v, some (.int n), none, none, none] H1 ((lookO xs k).getD .non) := fun H1 X1 E' =>
      ev_call (ea_cons (ev_var rfl) (ea_cons (ev_var rfl) ea_nil)) fun H2 X2 Q' q E'' => ⟨L, v, xs, k, rfl, (M.mono (X1.trans X2)).2.1, hA.mono (X1.trans X2), ndk_mono (k := k) (X1.trans X2) hk, fun H3 X3 => q H3 X3⟩
    refine q_when (b := false) (et_is (et_or (et_test (ev_op (elen H (Ex.refl H) _) (ev_cb (ea_cons (ev_var rfl) ea_nil) (rc_lenL (sq_of hL))) (rv_ne rfl))) fun _ => et_or (et_test (ev_op (ev_fld (ev_var rfl) hx T.cl_Memo T.na_Memo_number (mf_number _ _)) (ev_var rfl) (rv_ne rfl))) fun _ =>
        et_B (ev_cb (ea_cons (elen H (Ex.refl H) _) (ea_cons ev_c ea_nil)) (rc_isi (.ty _) ty_int (kit_ty (r := false) (by decide +kernel))))) ?_) (fun q => nomatch q) (fun _ H1 X1 => ?_)
    · rw [List.length_map, hlen]
      simp
    have M1 := M.mono X1
    have k1 := ndk_mono (k := k) X1 hk
    refine q_when (b := false) (et_is (et_or (et_test (ev_op (ev_meth (ev_var rfl) (X1 _ _ hx) (mf_no _ _ (by decide +kernel) (by decide +kernel)) (ea_cons (ev_var rfl) ea_nil) (fun H2 X2 Q' q E'' => ⟨x, d, n, xs, v, k, rfl, (M1.mono X2).1, ndk_mono (k := k) X2 k1, q H2 (Ex.refl H2)⟩)) (efound H1 X1 _) (rv_ne (look_scal ho k)))) fun _ =>
        et_test (ev_op (ev_op (ev_var rfl) (ev_var rfl) (fun H2 X2 Q' q => ⟨x, dx, _, rfl, X2 _ _ (X1 _ _ hx), x, d, n, xs, v, k, rfl, (M1.mono X2).1, ndk_mono (k := k) X2 k1, _, rfl, q H2 (Ex.refl H2)⟩)) (ev_op (efound H1 X1 _) ev_c rv_notN) (rv_ne rfl))) ?_) (fun q => nomatch q) (fun _ H2 X2 => ?_)
    · rw [look_none ho k]
      simp
    have X02 := X1.trans X2
    have M2 := M.mono X02
    -- told
    refine ⟨_, rfl, x, dx, _, rfl, X02 _ _ hx, mf_no _ _ (by decide +kernel) (by decide +kernel), x, d, n, xs, rfl, M2.1, fun H3 tp ts X3 htp hts htl hpair => ?_⟩
    have X03 := X02.trans X3
    -- due
    refine ⟨_, rfl, L, rfl, ⟨_, SqL.of (X03 _ _ hL)⟩, fun D hD => lc_list (K := K) (a := L) (xs := ps.map V.ref) (fun i H' => ∃ us : List Addr, Same H3 H' ∧ H' D = some (.lst (us.map V.ref)) ∧ Paired (fun (t : Addr) (q : List KI × Addr × V) => H' t = some (.tup [.ref q.2.1, q.2.2])) us (xs.take i)) ?_ ?_ ?_ ?_⟩
    · exact ⟨[], Same.new' (Same.refl _) hD, upd_same, by rw [List.take_zero]; exact .nil⟩
    · rintro i H' _ ⟨us, S, _⟩
      exact SqL.of ((X03.trans S) _ _ hL)
    · rintro i y H' hy ⟨us, S, hDl, hu⟩
      obtain ⟨b, hb, rfl⟩ := at_ref hy
      obtain ⟨q, hq, hbq⟩ := paired_at hp hb
      have hbl := (X03.trans S) _ _ hbq
      have lu : us.length ≤ 41 := by
        have := Paired.length hu
        rw [List.length_take] at this
        omega
      refine ⟨rfl, ?_⟩
      refine ⟨_, rfl, b, _, _, _, rfl, rfl, SqL.of hbl, rfl, _, rfl, b, _, _, _, rfl, rfl, SqL.of hbl, rfl, by show 2 ≤ sizeLine; decide, fun t ht => ?_⟩
      have nDt : D ≠ t := ne_of_none hDl ht
      refine ⟨_, (upd_ne nDt).trans hDl, by simp; exact Nat.lt_of_le_of_lt lu (by decide), us ++ [t], ?_, ?_, ?_⟩
      · exact Same.new (Same.new' S ht) hD
      · rw [upd_same, List.map_append]; rfl
      · have e1 : xs.take (i + 1) = xs.take i ++ [q] := by
          obtain ⟨hi, e⟩ := List.getElem?_eq_some_iff.mp hq
          rw [← e, List.take_append_getElem hi]
        rw [e1]
        refine paired_app (Paired.mapP hu fun t' q' e => ?_) (.cons ?_ .nil)
        · rw [upd_ne (ne_of hDl e (by intro z; cases z)).symm, upd_ne (ne_of_none e ht)]
          exact e
        · rw [upd_ne nDt.symm, upd_same]
    rintro H4 ⟨us, X4, hDl, hu⟩
    rw [List.length_map, hlen, List.take_length] at hu
    have X04 := X03.trans X4
    have M4 := M.mono X04
    have htl4 := X4 _ _ htl
    have hpair4 : Paired (fun (t : Addr) (q : List KI × Addr × V) => H4 t = some (.tup [.ref q.2.1, q.2.2])) ts xs := Paired.mapP hpair fun _ _ e => X4 _ _ e
    have dpT : ∀ H5, Ex H4 H5 → Dp K H5 (.ref tp) (.list (xs.map pairD)) := fun H5 X5 => .lst (SqL.of (X5 _ _ htl4)) (dp_pairs ho (hA.mono (X04.trans X5)) (Paired.mapP hpair4 fun _ _ e => X5 _ _ e))
    have dpD : ∀ H5, Ex H4 H5 → Dp K H5 (.ref D) (.list (xs.map pairD)) := fun H5 X5 => .lst (SqL.of (X5 _ _ hDl)) (dp_pairs ho (hA.mono (X04.trans X5)) (Paired.mapP hu fun _ _ e => X5 _ _ e))
    have sw := shw_pairs ho hz
    refine q_when (b := false) (et_is (et_or (et_not (et_B (ev_cb (ea_cons (ev_var rfl) (ea_cons ev_c ea_nil)) (rc_isi (.ty _) (ty_lst htl4) (kit_ty (r := true) (by decide +kernel)))))) fun _ =>
      et_test (ev_op (ev_cb (ea_cons (ev_var rfl) ea_nil) (fun H5 X5 Q' q => ⟨.ref tp, _, _, _, rfl, .inr ⟨_, rfl⟩, dpT H5 X5, sw, by decide, by decide, q H5 (Ex.refl H5)⟩)) (ev_cb (ea_cons (ev_var rfl) ea_nil) (fun H5 X5 Q' q => ⟨.ref D, _, _, _, rfl, .inr ⟨_, rfl⟩, dpD H5 X5, sw, by decide, by decide, q H5 (Ex.refl H5)⟩)) (rv_ne rfl))) ?_) (fun q => nomatch q) (fun _ H5 X5 => ?_)
    · simp
    -- told.append((None, 0))
    have ntD : D ≠ tp := ne_of_none htl hD |>.symm
    refine q_appU (ys := [.non, .int 0]) (X5 _ _ htl4) (ev_var rfl) (eu_tup (ea_cons ev_c (ea_cons ev_c ea_nil)) (by show 2 ≤ 100000; decide)) (by rw [List.length_map]; have := Paired.length hpair4; omega) fun a H6 ha X6 h6 => ?_
    have S7 : Same H2 (upd H6 tp (.lst (ts.map V.ref ++ [.ref a]))) := Same.new (X3.trans (X4.trans (X5.trans X6))) htp
    have hD7 : (upd H6 tp (.lst (ts.map V.ref ++ [.ref a]))) D = some (.lst (us.map V.ref)) := (upd_ne ntD).trans (X6 _ _ (X5 _ _ hDl))
    have hu7 : Paired (fun (t : Addr) (q : List KI × Addr × V) => (upd H6 tp (.lst (ts.map V.ref ++ [.ref a]))) t = some (.tup [.ref q.2.1, q.2.2])) us xs := Paired.mapP hu fun t q e => by
      rw [upd_ne (ne_of htl4 e (by intro z; cases z)).symm]
      exact X6 _ _ (X5 _ _ e)
    revert S7 hD7 hu7
    generalize upd H6 tp (.lst (ts.map V.ref ++ [.ref a])) = H7
    intro S7 hD7 hu7
    have X07 := X02.trans S7
    have M7 := M.mono X07
    refine ⟨_, rfl, x, dx, _, rfl, X07 _ _ hx, mf_no _ _ (by decide +kernel) (by decide +kernel), x, d, n, xs, rfl, M7.1, fun H8 tq tt X8 htq htt htl8 hpair8 => ?_⟩
    have X08 := X07.trans X8
    refine ⟨.ref tq, _, _, _, rfl, .inr ⟨_, rfl⟩, .lst (SqL.of htl8) (dp_pairs ho (hA.mono X08) hpair8), sw, by decide, by decide, _, rfl, .ref D, _, _, _, rfl, .inr ⟨_, rfl⟩, .lst (SqL.of (X8 _ _ hD7)) (dp_pairs ho (hA.mono X08) (Paired.mapP hu7 fun _ _ e => X8 _ _ e)), sw, by decide, by decide, rfl, ?_⟩
    show Q (.bl (decide (V.str _ = V.str _))) H8
    rw [decide_eq_true rfl]
    exact kont _ X08
end
end K24

namespace K24
open PySem L2 Way Evl
/-! what a write leaves as it was -/
def Away (o : HO) : Prop := (∀ xs, o ≠ .tup xs) ∧ ∀ a i, o ≠ .lst [.ref a, .int i]
theorem away_dK {kvs : List (Key × V)} : Away (.dK kvs) := ⟨fun _ h => (by cases h), fun _ _ h => (by cases h)⟩
theorem away_nd {P : Program} {w : World} {d : Addr} {xs : NdX} : Away (NdO P w d xs) := ⟨fun _ h => (by cases h), fun _ _ h => (by cases h)⟩
theorem away_refs {ps : List Addr} : Away (.lst (ps.map V.ref)) := ⟨fun _ h => (by cases h), fun a i h => by
  injection h with h
  match ps, h with
  | [_, _], h => simp at h⟩
theorem paired_mapM {α β : Type} {R S : α → β → Prop} : ∀ {xs : List α} {ys : List β}, Paired R xs ys → (∀ x y, y ∈ ys → R x y → S x y) → Paired S xs ys
  | _, _, .nil, _ => .nil
  | _, _, .cons a r, f => .cons (f _ _ (List.mem_cons_self ..) a) (paired_mapM r fun x y hy => f x y (List.mem_cons_of_mem _ hy))
section
variable {P : Program} {w : World} {C : Addr} {H H' : Hp} {s x d L : Addr} {n : Int} {xs : NdX} {o : HO}
theorem allk_kp (hs : H s = some o) (aw : Away o) (e : Kp s H H') (h : AllK H xs) : AllK H' xs := fun q hq => key_kp (fun zs z => aw.1 zs (Option.some.inj (hs.symm.trans z))) e (h q hq)
theorem pairs_kp (hs : H s = some o) (aw : Away o) (ho : ∀ q ∈ xs, OkX q) (e : Kp s H H') (n1 : L ≠ s) (h : PairsAt H L xs) : PairsAt H' L xs := by
  obtain ⟨ps, h1, h2⟩ := h
  refine ⟨ps, e _ _ n1 h1, paired_mapM h2 fun t q hq ht => ?_⟩
  obtain ⟨_, i, hi, _⟩ := ho q hq
  rw [hi] at ht ⊢
  exact e _ _ (fun z => aw.2 _ _ (Option.some.inj (hs.symm.trans (z ▸ ht)))) ht
theorem memo_kp (hs : H s = some o) (aw : Away o) (e : Kp s H H') (n1 : x ≠ s) (n2 : d ≠ s) (h : MemoAt P w C H x d n xs) : MemoAt P w C H' x d n xs :=
  let ⟨⟨dx, h1⟩, h2, h3⟩ := h; ⟨⟨dx, e _ _ n1 h1⟩, e _ _ n2 h2, allk_kp hs aw e h3⟩
theorem mem_kp (hs : H s = some o) (aw : Away o) (e : Kp s H H') (n1 : x ≠ s) (n2 : d ≠ s) (n3 : L ≠ s) (h : Mem P w C H x d L n xs) : Mem P w C H' x d L n xs :=
  ⟨memo_kp hs aw e n1 n2 h.1, pairs_kp hs aw h.2.2 e n3 h.2.1, h.2.2⟩
end
structure Ap (c NL ML KL : Addr) (mm dd LL : Nat → Addr) : Prop where
  m01 : mm 0 ≠ mm 1
  d01 : dd 0 ≠ dd 1
  l01 : LL 0 ≠ LL 1
  ln : ∀ a, a ≤ 1 → LL a ≠ NL
  lm : ∀ a, a ≤ 1 → LL a ≠ ML
  lk : ∀ a, a ≤ 1 → LL a ≠ KL
  lc : ∀ a, a ≤ 1 → LL a ≠ c
structure Wd (P : Program) (w : World) (C p c NL ML KL : Addr) (mm dd LL : Nat → Addr) (nn : Nat → Int) (H : Hp) (k i : Nat) (xx : Nat → NdX) : Prop where
  pen : Pen H p c k
  nl : H NL = some (.lst [.int (nn 0), .int (nn 1)])
  ml : H ML = some (.lst [.ref (mm 0), .ref (mm 1)])
  kl : H KL = some (.lst [.ref (LL 0), .ref (LL 1)])
  me : ∀ a, a ≤ 1 → Mem P w C H (mm a) (dd a) (LL a) (nn a) (xx a)
  le : ∀ a, a ≤ 1 → (xx a).length ≤ i
structure Mid (P : Program) (w : World) (C p c NL ML KL : Addr) (mm dd LL : Nat → Addr) (nn : Nat → Int) (H : Hp) (k a : Nat) (xs xs' ys : NdX) : Prop where
  pen : Pen H p c k
  nl : H NL = some (.lst [.int (nn 0), .int (nn 1)])
  ml : H ML = some (.lst [.ref (mm 0), .ref (mm 1)])
  kl : H KL = some (.lst [.ref (LL 0), .ref (LL 1)])
  memo : MemoAt P w C H (mm a) (dd a) (nn a) xs'
  pairs : PairsAt H (LL a) xs
  okx : ∀ q ∈ xs', OkX q
  other : Mem P w C H (mm (1 - a)) (dd (1 - a)) (LL (1 - a)) (nn (1 - a)) ys
section
variable {P : Program} {w : World} {C p c NL ML KL : Addr} {mm dd LL : Nat → Addr} {nn : Nat → Int} {H H' : Hp} {k k' i a : Nat} {xx : Nat → NdX} {xs xs' ys : NdX}
theorem Wd.same (W : Wd P w C p c NL ML KL mm dd LL nn H k i xx) (e : Same H H') : Wd P w C p c NL ML KL mm dd LL nn H' k i xx :=
  ⟨W.pen.mono e, e _ _ W.nl, e _ _ W.ml, e _ _ W.kl, fun a ha => (W.me a ha).mono e, W.le⟩
theorem Wd.more (W : Wd P w C p c NL ML KL mm dd LL nn H k i xx) {k' i' : Nat} (h1 : k ≤ k') (h2 : i ≤ i') : Wd P w C p c NL ML KL mm dd LL nn H k' i' xx := ⟨W.pen.le h1, W.nl, W.ml, W.kl, W.me, fun a ha => Nat.le_trans (W.le a ha) h2⟩
theorem Mid.same (W : Mid P w C p c NL ML KL mm dd LL nn H k a xs xs' ys) (e : Same H H') : Mid P w C p c NL ML KL mm dd LL nn H' k a xs xs' ys :=
  ⟨W.pen.mono e, e _ _ W.nl, e _ _ W.ml, e _ _ W.kl, W.memo.mono e, W.pairs.mono e, W.okx, W.other.mono e⟩
theorem Wd.drawn (W : Wd P w C p c NL ML KL mm dd LL nn H k i xx) (e : Kp p H H') (P' : Pen H' p c k') : Wd P w C p c NL ML KL mm dd LL nn H' k' i xx := by
  obtain ⟨kvs, hp⟩ := W.pen.here
  have nl := fun {b : Addr} {l : List V} (h : H b = some (.lst l)) => (ne_of h hp (by intro q; cases q) : b ≠ p)
  refine ⟨P', e _ _ (nl W.nl) W.nl, e _ _ (nl W.ml) W.ml, e _ _ (nl W.kl) W.kl, fun a ha => ?_, W.le⟩
  have M := W.me a ha
  obtain ⟨⟨⟨dx, h1⟩, h2, _⟩, ⟨ps, h3, _⟩, _⟩ := id M
  exact mem_kp hp away_dK e (ne_of h1 hp (by intro q; cases q)) (ne_of h2 hp (by intro q; cases q)) (nl h3) M
theorem one_sub {a : Nat} (h : a ≤ 1) : 1 - a ≤ 1 ∧ ∀ j, j ≤ 1 → j ≠ a → j = 1 - a := ⟨by omega, fun j h1 h2 => by omega⟩
theorem Ap.dne (A : Ap c NL ML KL mm dd LL) (h : a ≤ 1) : dd (1 - a) ≠ dd a := by
  match a, h with
  | 0, _ => exact A.d01.symm
  | 1, _ => exact A.d01
theorem Ap.lne (A : Ap c NL ML KL mm dd LL) (h : a ≤ 1) : LL (1 - a) ≠ LL a := by
  match a, h with
  | 0, _ => exact A.l01.symm
  | 1, _ => exact A.l01
theorem Wd.stored (A : Ap c NL ML KL mm dd LL) (W : Wd P w C p c NL ML KL mm dd LL nn H k i xx) (ha : a ≤ 1) {ks : List KI} {t : Addr} {y : V} (hk : KeyAt H ks t) (ok : OkX (ks, t, y)) :
    Mid P w C p c NL ML KL mm dd LL nn (upd H (dd a) (NdO P w (dd a) (xx a ++ [(ks, t, y)]))) k a (xx a) (xx a ++ [(ks, t, y)]) (xx (1 - a)) := by
  have M := W.me a ha
  have M' := W.me (1 - a) (one_sub ha).1
  obtain ⟨⟨⟨dx, h1⟩, h2, hA⟩, ⟨ps, h3, hps⟩, ho⟩ := id M
  obtain ⟨⟨⟨dx', g1⟩, g2, _⟩, ⟨ps', g3, _⟩, _⟩ := id M'
  have e : Kp (dd a) H (upd H (dd a) (NdO P w (dd a) (xx a ++ [(ks, t, y)]))) := Kp.set (Kp.refl _ _)
  have nl := fun {b : Addr} {l : List V} (h : H b = some (.lst l)) => (ne_of h h2 (by intro q; cases q) : b ≠ dd a)
  obtain ⟨kvs, hp⟩ := W.pen.here
  obtain ⟨cs, hc⟩ := W.pen.cells
  refine ⟨W.pen.kp e (ne_of hp h2 (by intro q; cases q)) (nl hc), e _ _ (nl W.nl) W.nl, e _ _ (nl W.ml) W.ml, e _ _ (nl W.kl) W.kl, ⟨⟨dx, e _ _ (ne_of h1 h2 (by intro q; cases q)) h1⟩, upd_same, fun q hq => ?_⟩, pairs_kp h2 away_nd ho e (nl h3) ⟨ps, h3, hps⟩, fun q hq => ?_, mem_kp h2 away_nd e (ne_of g1 h2 (by intro q; cases q)) (A.dne ha) (nl g3) M'⟩
  · rcases List.mem_append.mp hq with z | z
    · exact allk_kp h2 away_nd e hA q z
    · rw [List.mem_singleton.mp z]
      exact key_kp (fun zs z => away_nd.1 zs (Option.some.inj (h2.symm.trans z))) e hk
  · rcases List.mem_append.mp hq with z | z
    · exact ho q z
    · rw [List.mem_singleton.mp z]; exact ok
theorem Mid.grown (A : Ap c NL ML KL mm dd LL) (W : Mid P w C p c NL ML KL mm dd LL nn H k a (xx a) (xx a ++ [q0]) (xx (1 - a))) (ha : a ≤ 1) (hle : ∀ a, a ≤ 1 → (xx a).length ≤ i) {ps : List Addr} (hL : H (LL a) = some (.lst (ps.map V.ref)))
    (hp : Paired (fun (t : Addr) (q : List KI × Addr × V) => H t = some (.lst [.ref q.2.1, q.2.2])) ps (xx a)) {b : Addr} (hb : H b = some (.lst [.ref q0.2.1, q0.2.2])) (nb : b ≠ LL a) :
    Wd P w C p c NL ML KL mm dd LL nn (upd H (LL a) (.lst (ps.map V.ref ++ [.ref b]))) k (i + 1) (fun j => if j = a then xx a ++ [q0] else xx j) := by
  have e : Kp (LL a) H (upd H (LL a) (.lst (ps.map V.ref ++ [.ref b]))) := Kp.set (Kp.refl _ _)
  obtain ⟨⟨dx, h1⟩, h2, hA⟩ := id W.memo
  obtain ⟨⟨⟨dx', g1⟩, g2, _⟩, ⟨ps', g3, _⟩, _⟩ := id W.other
  obtain ⟨kvs, hpen⟩ := W.pen.here
  have nk := fun {b : Addr} {o : HO} (h : H b = some o) (n : ∀ l, o ≠ .lst l) => (ne_of h hL (n _) : b ≠ LL a)
  refine ⟨W.pen.kp e (nk hpen (by intro l q; cases q)) (A.lc a ha).symm, e _ _ (A.ln a ha).symm W.nl, e _ _ (A.lm a ha).symm W.ml, e _ _ (A.lk a ha).symm W.kl, fun j hj => ?_, fun j hj => ?_⟩
  · by_cases hja : j = a
    · subst hja
      simp only [if_pos rfl]
      refine ⟨memo_kp hL away_refs e (nk h1 (by intro l q; cases q)) (nk h2 (by intro l q; cases q)) W.memo, ⟨ps ++ [b], ?_, ?_⟩, W.okx⟩
      · rw [upd_same, List.map_append]; rfl
      · refine paired_app (paired_mapM hp fun t q hq ht => ?_) (.cons (e _ _ nb hb) .nil)
        obtain ⟨_, i', hi, _⟩ := W.okx q (List.mem_append_left _ hq)
        rw [hi] at ht ⊢
        exact e _ _ (fun z => away_refs.2 _ _ (Option.some.inj (hL.symm.trans (z ▸ ht)))) ht
    · have hj' := (one_sub ha).2 j hj hja
      simp only [if_neg hja]
      rw [hj']
      exact mem_kp hL away_refs e (nk g1 (by intro l q; cases q)) (nk g2 (by intro l q; cases q)) (A.lne ha) W.other
  · by_cases hja : j = a
    · simp only [if_pos hja]
      rw [List.length_append, List.length_singleton]
      have := hle a ha
      omega
    · simp only [if_neg hja]
      have := hle j hj
      omega
end
end K24

namespace K24
open PySem L2 Way Evl
def spLaw (K : PySem.W.Frag) : Sp := fun vs H Q _ => ∃ (a : Addr) (ns : List Int), vs = [.ref a] ∧ SqL K H a (ns.map V.int) ∧ ns.length ≤ 63 ∧ ∀ H', Q (.bl true) H'
theorem kb_init {K : PySem.W.Frag} {f : Addr} {fd : FuncData} (F : Fun K "__init__" "Memo.__init__" s_Memo_init f fd) : KBn K fd P_Memo_init 1 ["number"] (fun us ws => us ++ ws) (fun vs zs => vs ++ zs) := by
  obtain ⟨oc, od, kV, doc, pm, an, cdv, ct, osl, rfl, lk, hcd⟩ := F.ex
  refine ⟨fun s us ws _ h1 h2 => ?_, fun r1 r2 => r1.append r2⟩
  match us, ws, h1, h2 with
  | [a], [b], _, _ => exact .of_eq rfl
theorem two {α : Type} {x y : α} {f : Nat → α} (h0 : f 0 = x) (h1 : f 1 = y) : ∀ a, a ≤ 1 → [x, y][a]? = some (f a)
  | 0, _ => by rw [h0]; rfl
  | 1, _ => by rw [h1]; rfl
section
variable {P : Program} {w : World} {K : PySem.W.Frag} {mg : Str → Option Value} {base : Heap}
set_option maxHeartbeats 16000000 in
theorem ok_law (T : Txt K mg) : FnG P w K mg base CX0 8 T.f_law T.d_law P_law (spLaw K) := by
  have G_pen := ok_pen (P := P) (w := w) (base := base) T
  have G_take := ok_take (P := P) (w := w) (base := base) T
  have G_token := ok_token (P := P) (w := w) (base := base) T
  have G_found := ok_found (P := P) (w := w) (base := base) T
  have G_right := ok_right (P := P) (w := w) (base := base) T
  have G_Memo_init := ok_init (P := P) (w := w) (base := base) T
  have G_Memo_len := ok_len (P := P) (w := w) (base := base) T
  have G_Memo_contains := ok_contains (P := P) (w := w) (base := base) T
  have G_Memo_known := ok_known (P := P) (w := w) (base := base) T
  have G_Memo_keep := ok_keep (P := P) (w := w) (base := base) T
  have kb_Memo_init_0 := kb_init T.F_Memo_init
  refine okG T.F_law sc_law (fun vs H Q E h => ?_) (fun cdv A outer s H vs Q E hgd hr h => ?_)
  · obtain ⟨a, ns, rfl, _⟩ := h
    rfl
  · obtain ⟨a, ns, rfl, hS, hlen, kont⟩ := h
    refine ⟨_, (pss_cons (ps_set (i := 1) sc_law.nd rfl (Or.inl rfl) (pe_call G_pen (hr.mono (by decide)) (by rfl) T.g_pen T.F_pen.kp T.B_pen .nil pass0 (pa_cons (pv 0) pa_nil)))
      (pss_cons (ps_set (i := 2) sc_law.nd rfl (Or.inl rfl) (pe_call G_take (hr.mono (by decide)) (by rfl) T.g_take T.F_take.kp T.B_take .nil pass0 (pa_cons (pv 1) (pa_cons pe_int pa_nil))))
      (pss_cons (ps_set (i := 3) sc_law.nd rfl (Or.inl rfl) (pe_lst (pa_cons (pv 2) (pa_cons (pe_ix ix_list (pe_lst (pa_cons (pv 2) (pa_cons (pe_op op_add (pv 2) pe_int) (pa_cons pe_int pa_nil)))) (pe_call G_take (hr.mono (by decide)) (by rfl) T.g_take T.F_take.kp T.B_take .nil pass0 (pa_cons (pv 1) (pa_cons pe_int pa_nil))) (fun _ _ => rfl)) pa_nil))))
      (pss_cons (ps_set (i := 4) sc_law.nd rfl (Or.inl rfl) (pe_lst (pa_cons (pe_make T.M_Memo G_Memo_init (hr.mono (by decide)) (by rfl) T.g_Memo T.B_Memo_init .nil pass0 (pa_cons (pe_ix ix_list (pv 3) pe_int (fun _ _ => rfl)) pa_nil)) (pa_cons (pe_makeK0 T.M_Memo G_Memo_init (hr.mono (by decide)) (by rfl) T.g_Memo kb_Memo_init_0 pass0 (pk_cons (pe_ix ix_list (pv 3) pe_int (fun _ _ => rfl)) pk_nil)) pa_nil))))
      (pss_cons (ps_set (i := 5) sc_law.nd rfl (Or.inl rfl) (pe_lst (pa_cons (pe_lst pa_nil) (pa_cons (pe_lst pa_nil) pa_nil))))
      (pss_cons (ps_for PassesOwn.never rfl (pi_range1 (by rfl) T.b_range (pa_cons (pe_call G_take (hr.mono (by decide)) (by rfl) T.g_take T.F_take.kp T.B_take .nil pass0 (pa_cons (pv 1) (pa_cons pe_int pa_nil))) pa_nil)) (pg_name (i := 6) sc_law.nd rfl (Or.inl rfl)) (pss_cons (ps_set (i := 7) sc_law.nd rfl (Or.inl rfl) (pe_call G_take (hr.mono (by decide)) (by rfl) T.g_take T.F_take.kp T.B_take .nil pass0 (pa_cons (pv 1) (pa_cons pe_int pa_nil))))
      (pss_cons (ps_set (i := 8) sc_law.nd rfl (Or.inl rfl) (pe_ix ix_list (pv 4) (pv 7) (fun _ _ => rfl)))
      (pss_cons (ps_set (i := 9) sc_law.nd rfl (Or.inl rfl) (pe_ix ix_list (pv 5) (pv 7) (fun _ _ => rfl)))
      (pss_cons (ps_asg (Way.pe_callG G_token hgd (hr.mono (by decide)) (by rfl) T.g_token T.F_token.kp T.B_token .nil pass0 (pa_cons (pv 1) pa_nil)) (pg_lst rfl (pgs_cons (pg_name (i := 10) sc_law.nd rfl (Or.inl rfl)) (pgs_cons (pg_name (i := 11) sc_law.nd rfl (Or.inl rfl)) pgs_nil))))
      (pss_cons (ps_if (pt_not (pt_val (pv 10))) (pss_one (ps_ret pe_bl)) pss_nil)
      (pss_cut (ps_if (pt_cmpR op_gt (pe_call G_take (hr.mono (by decide)) (by rfl) T.g_take T.F_take.kp T.B_take .nil pass0 (pa_cons (pv 1) (pa_cons pe_int pa_nil))) pe_int (nomark _)) (pss_cons (ps_set (i := 12) sc_law.nd rfl (Or.inl rfl) (pe_op op_add (pe_ix ix_list (pe_lst (pa_cons pe_int (pa_cons pe_int (pa_cons pe_int pa_nil)))) (pe_call G_take (hr.mono (by decide)) (by rfl) T.g_take T.F_take.kp T.B_take .nil pass0 (pa_cons (pv 1) (pa_cons pe_int pa_nil))) (fun _ _ => rfl)) (pe_call G_take (hr.mono (by decide)) (by rfl) T.g_take T.F_take.kp T.B_take .nil pass0 (pa_cons (pv 1) (pa_cons pe_int pa_nil)))))
      (pss_cons (ps_if (pt_cmpR op_notN (pe_meth (pv 8) T.cl_Memo T.m_Memo_keep G_Memo_keep (hr.mono (by decide)) T.B_Memo_keep .nil pass0 (pa_cons (pv 11) (pa_cons (pv 12) pa_nil))) pe_non (nomark _)) (pss_one (ps_ret pe_bl)) pss_nil)
      (pss_one (ps_if (PW.pt (pw_and (pt_cmpR op_notN (pv 11) pe_non (nomark _)) (pw_and1 (pt_cmpR op_isN (pe_call G_found (hr.mono (by decide)) (by rfl) T.g_found T.F_found.kp T.B_found .nil pass0 (pa_cons (pv 9) (pa_cons (pv 11) pa_nil))) pe_non (nomark _))))) (pss_one (ps_expr (pe_bm PySem.F.plainAttrs_list PySem.F.slot_list_append PySem.F.type_list_append mt_append (pv 9) (pa_cons (pe_lst (pa_cons (pv 11) (pa_cons (pv 12) pa_nil))) pa_nil)))) pss_nil)))) pss_nil)
      (pss_cons (ps_if (PW.pt (pw_or (pt_not (pt_val (Way.pe_callG G_right hgd (hr.mono (by decide)) (by rfl) T.g_right T.F_right.kp T.B_right .nil pass0 (pa_cons (pv 8) (pa_cons (pv 9) (pa_cons (pv 11) (pa_cons (pe_ix ix_list (pv 3) (pv 7) (fun _ _ => rfl)) pa_nil))))))) (pw_or (pt_cmpR (Way.op_inO G_Memo_contains T.m_Memo_contains.at_ T.m_Memo_contains.fn T.B_Memo_contains pass0 (hr.mono (by decide))) pe_non (pv 8) (by rfl)) (pw_or1 (pt_cmpR op_notN (pe_meth (pv 8) T.cl_Memo T.m_Memo_known G_Memo_known (hr.mono (by decide)) T.B_Memo_known .nil pass0 (pa_cons pe_non pa_nil)) pe_non (nomark _)))))) (pss_one (ps_ret pe_bl)) pss_nil)
      (pss_one (ps_if (pt_not (pt_val (Way.pe_callG G_right hgd (hr.mono (by decide)) (by rfl) T.g_right T.F_right.kp T.B_right .nil pass0 (pa_cons (pe_ix ix_list (pv 4) (pe_op op_sub pe_int (pv 7)) (fun _ _ => rfl)) (pa_cons (pe_ix ix_list (pv 5) (pe_op op_sub pe_int (pv 7)) (fun _ _ => rfl)) (pa_cons (pv 11) (pa_cons (pe_ix ix_list (pv 3) (pe_op op_sub pe_int (pv 7)) (fun _ _ => rfl)) pa_nil))))))) (pss_one (ps_ret pe_bl)) pss_nil))))))))))
      (pss_one (ps_ret (pe_and (pe_cmpR (Way.op_neI T.id_Memo hr) (pe_ix ix_list (pv 4) pe_int (fun _ _ => rfl)) (pe_ix ix_list (pv 4) pe_int (fun _ _ => rfl)) (nomark _)) (pe_and (pe_cmpR (Way.op_eqI T.id_Memo hr) (pe_ix ix_list (pv 4) pe_int (fun _ _ => rfl)) (pe_ix ix_list (pv 4) pe_int (fun _ _ => rfl)) (nomark _)) (pe_one (pe_cmpR op_eq (pe_callB (Way.call_lenO G_Memo_len T.m_Memo_len.at_ T.m_Memo_len.fn T.B_Memo_len pass0 (hr.mono (by decide))) (by rfl) T.b_len (by decide +kernel) (pa_cons (pe_ix ix_list (pv 4) pe_int (fun _ _ => rfl)) pa_nil)) (pe_callB call_len_seq (by rfl) T.b_len (by decide +kernel) (pa_cons (pe_ix ix_list (pv 5) pe_int (fun _ _ => rfl)) pa_nil)) (nomark _))))))))))))), ?_⟩
    refine ⟨_, rfl, a, ns, rfl, hS, hlen, fun H1 p c X1 hp0 hc0 P1 => ?_⟩
    refine take1 rfl P1 (by omega) (by decide) (by decide) fun H2 f K2 P2 f0 f1 => ?_
    -- numbers
    refine ⟨_, rfl, ?_⟩
    refine pick (xs := [.int f, .int (f + 1), .int 3999]) (ea_cons (ev_var rfl) (ea_cons (ev_op (ev_var rfl) ev_c rv_I0) (ea_cons ev_c ea_nil))) rfl P2 (by omega) rfl (by decide) (by decide) fun H3 v hv K3 P3 => ?_
    obtain ⟨g, rfl⟩ : ∃ g : Int, v = .int g := by
      simp only [List.mem_cons, List.not_mem_nil, or_false] at hv
      rcases hv with rfl | rfl | rfl <;> exact ⟨_, rfl⟩
    clear hv
    refine ⟨by show 2 ≤ sizeLine; decide, fun NL hNL => ?_⟩
    have P4 : Pen (upd H3 NL (.lst [.int f, .int g])) p c 2 := P3.upd (P3.ne hNL) (P3.neC hNL)
    have hN4 : (upd H3 NL (.lst [.int f, .int g])) NL = some (.lst [.int f, .int g]) := upd_same
    revert P4 hN4
    generalize upd H3 NL (.lst [.int f, .int g]) = H4
    intro P4 hN4
    -- memos
    refine ⟨_, rfl, NL, _, _, _, rfl, rfl, SqL.of hN4, rfl, fun m0 dx0 hm0 hdx0 ne0 => ?_⟩
    refine ⟨H4, m0, dx0, f, rfl, Same.new (Same.new' (Same.refl H4) hdx0) hm0, hm0, upd_same, fun H5 d0 X5 hd0 M5 => ⟨rfl, ?_⟩⟩
    refine ⟨_, rfl, NL, _, _, _, rfl, rfl, SqL.of (X5 _ _ hN4), rfl, rfl, rfl, fun m1 dx1 hm1 hdx1 ne1 => ?_⟩
    refine ⟨H5, m1, dx1, g, rfl, Same.new (Same.new' (Same.refl H5) hdx1) hm1, hm1, upd_same, fun H6 d1 X6 hd1 M6 => ⟨rfl, ?_⟩⟩
    refine ⟨by show 2 ≤ sizeLine; decide, fun ML hML => ?_⟩
    have nm : m0 ≠ m1 := by obtain ⟨⟨dx, q⟩, _⟩ := M5; exact ne_of_none q hm1
    have nd : d0 ≠ d1 := by obtain ⟨_, q, _⟩ := M5; exact ne_of_none q hd1
    have X7 : Same H6 (upd H6 ML (.lst [.ref m0, .ref m1])) := Same.new' (Same.refl _) hML
    have hM7 : (upd H6 ML (.lst [.ref m0, .ref m1])) ML = some (.lst [.ref m0, .ref m1]) := upd_same
    revert X7 hM7
    generalize upd H6 ML (.lst [.ref m0, .ref m1]) = H7
    intro X7 hM7
    -- known
    refine ⟨Nat.zero_le _, fun L0 hL0 => ⟨Nat.zero_le _, fun L1 hL1 => ⟨by show 2 ≤ sizeLine; decide, fun KL hKL => ?_⟩⟩⟩
    have nL : L0 ≠ L1 := fun e => by rw [← e, upd_same] at hL1; cases hL1
    have hL1' : H7 L1 = none := by rw [upd_ne nL.symm] at hL1; exact hL1
    have X8 : Same H7 (upd (upd (upd H7 L0 (.lst [])) L1 (.lst [])) KL (.lst [.ref L0, .ref L1])) := Same.new' (Same.new' (Same.new' (Same.refl _) hL0) hL1) hKL
    have hk0 : (upd (upd (upd H7 L0 (.lst [])) L1 (.lst [])) KL (.lst [.ref L0, .ref L1])) L0 = some (.lst []) := (upd_ne (ne_of_none ((upd_ne nL).trans upd_same) hKL)).trans ((upd_ne nL).trans upd_same)
    have hk1 : (upd (upd (upd H7 L0 (.lst [])) L1 (.lst [])) KL (.lst [.ref L0, .ref L1])) L1 = some (.lst []) := (upd_ne (ne_of_none upd_same hKL)).trans upd_same
    have hkk : (upd (upd (upd H7 L0 (.lst [])) L1 (.lst [])) KL (.lst [.ref L0, .ref L1])) KL = some (.lst [.ref L0, .ref L1]) := upd_same
    have nK0 : L0 ≠ KL := ne_of_none ((upd_ne nL).trans upd_same) hKL
    have nK1 : L1 ≠ KL := ne_of_none upd_same hKL
    revert X8 hk0 hk1 hkk
    generalize upd (upd (upd H7 L0 (.lst [])) L1 (.lst [])) KL (.lst [.ref L0, .ref L1]) = H8
    intro X8 hk0 hk1 hkk
    obtain ⟨mm, em0, em1⟩ : ∃ mm : Nat → Addr, mm 0 = m0 ∧ mm 1 = m1 := ⟨fun a => if a = 0 then m0 else m1, rfl, rfl⟩
    obtain ⟨dd, ed0, ed1⟩ : ∃ mm : Nat → Addr, mm 0 = d0 ∧ mm 1 = d1 := ⟨fun a => if a = 0 then d0 else d1, rfl, rfl⟩
    obtain ⟨LL, el0, el1⟩ : ∃ mm : Nat → Addr, mm 0 = L0 ∧ mm 1 = L1 := ⟨fun a => if a = 0 then L0 else L1, rfl, rfl⟩
    obtain ⟨nn, en0, en1⟩ : ∃ mm : Nat → Int, mm 0 = f ∧ mm 1 = g := ⟨fun a => if a = 0 then f else g, rfl, rfl⟩
    have X48 : Same H4 H8 := X5.trans (X6.trans (X7.trans X8))
    have P7 : Pen H7 p c 2 := P4.mono (X5.trans (X6.trans X7))
    have le1 : ∀ {a : Nat} {R : Nat → Prop}, a ≤ 1 → R 0 → R 1 → R a := fun {a R} h r0 r1 => by
      match a, h with
      | 0, _ => exact r0
      | 1, _ => exact r1
    have ap : Ap c NL ML KL mm dd LL := by
      have q0 := ne_of_none (X7 _ _ (X6 _ _ (X5 _ _ hN4))) hL0
      have q1 := ne_of_none (X7 _ _ (X6 _ _ (X5 _ _ hN4))) hL1'
      refine ⟨by rw [em0, em1]; exact nm, by rw [ed0, ed1]; exact nd, by rw [el0, el1]; exact nL, fun a ha => le1 (R := fun a => LL a ≠ NL) ha (by rw [el0]; exact q0.symm) (by rw [el1]; exact q1.symm), fun a ha => le1 (R := fun a => LL a ≠ ML) ha (by rw [el0]; exact (ne_of_none hM7 hL0).symm) (by rw [el1]; exact (ne_of_none hM7 hL1').symm),
        fun a ha => le1 (R := fun a => LL a ≠ KL) ha (by rw [el0]; exact nK0) (by rw [el1]; exact nK1), fun a ha => le1 (R := fun a => LL a ≠ c) ha (by rw [el0]; exact P7.neC hL0) (by rw [el1]; exact P7.neC hL1')⟩
    have W8 : Wd P w T.C_Memo p c NL ML KL mm dd LL nn H8 2 0 (fun _ => []) := by
      refine ⟨P7.mono X8, by rw [en0, en1]; exact X48 _ _ hN4, by rw [em0, em1]; exact X8 _ _ hM7, by rw [el0, el1]; exact hkk, fun a ha => le1 (R := fun a => Mem P w T.C_Memo H8 (mm a) (dd a) (LL a) (nn a) []) ha ?_ ?_, fun a ha => Nat.le_refl _⟩
      · rw [em0, ed0, el0, en0]
        exact ⟨M5.mono (X6.trans (X7.trans X8)), ⟨[], hk0, .nil⟩, fun q hq => by cases hq⟩
      · rw [em1, ed1, el1, en1]
        exact ⟨M6.mono (X7.trans X8), ⟨[], hk1, .nil⟩, fun q hq => by cases hq⟩
    clear hk0 hk1 hkk hM7 X8 X7 hL0 hL1 hL1' hKL
    -- the turns
    refine take1 rfl W8.pen (by omega) (by decide) (by decide) fun H9 z K9 P9 z0 z1 => ?_
    have W9 := W8.drawn K9 P9
    refine ⟨z, rfl, by omega, by omega, for_range (lo := 0) (n := z.toNat) (fun i σ H' => ∃ (xx : Nat → NdX) (v6 v7 v8 v9 v10 v11 v12 : Option V), σ = [some (.ref a), some (.ref p), some (.int f), some (.ref NL), some (.ref ML), some (.ref KL), v6, v7, v8, v9, v10, v11, v12] ∧ Wd P w T.C_Memo p c NL ML KL mm dd LL nn H' (3 + 30 * i) i xx) ⟨_, _, _, _, _, _, _, _, rfl, W9⟩ ?_ ?_⟩
    · rintro i σ H' hi ⟨xx, v6, v7, v8, v9, v10, v11, v12, rfl, W⟩
      have hi41 : i < 40 := by omega
      -- at
      refine take1 rfl W.pen (by omega) (by decide) (by decide) fun Ha t Ka Pa t0 t1 => ?_
      have Wa := W.drawn Ka Pa
      obtain ⟨b, rfl, hb⟩ : ∃ b : Nat, t = (b : Int) ∧ b ≤ 1 := ⟨t.toNat, by omega, by omega⟩
      clear Ka Pa W H'
      -- memo, pairs
      refine ⟨_, rfl, _, rfl, ML, _, _, _, rfl, rfl, SqL.of Wa.ml, atI_nat (two (f := fun j => V.ref (mm j)) rfl rfl b hb), ?_⟩
      refine ⟨_, rfl, _, rfl, KL, _, _, _, rfl, rfl, SqL.of Wa.kl, atI_nat (two (f := fun j => V.ref (LL j)) rfl rfl b hb), ?_⟩
      -- token
      refine ⟨_, rfl, p, c, _, rfl, Wa.pen, by omega, fun Hb r v key Kb Pb hr0 hrl hkey okk => ?_⟩
      have Wb := Wa.drawn Kb Pb
      refine ⟨r, _, rfl, SqL.of hrl, rfl, _, _, rfl, _, _, rfl, rfl, ?_⟩
      refine q_when (b := false) (et_is (et_not (et_B (b := true) (ev_var rfl))) rfl) (fun q => nomatch q) (fun _ Hc Xc => ?_)
      have Wc := Wb.same Xc
      have kc := ndk_mono Xc hkey
      clear hrl Wb hkey Kb Pb Wa Xc
      refine q_cut (M := fun σ' H' => ∃ (xx' : Nat → NdX) (v12' : Option V), σ' = [some (.ref a), some (.ref p), some (.int f), some (.ref NL), some (.ref ML), some (.ref KL), some (.int (0 + (i : Int))), some (.int (b : Int)), some (.ref (mm b)), some (.ref (LL b)), some (.bl true), some v, v12'] ∧ Wd P w T.C_Memo p c NL ML KL mm dd LL nn H' (3 + 30 * i + 30) (i + 1) xx' ∧ NdKey H' v key) ?_ ?_
      · refine take1 rfl Wc.pen (by omega) (by decide) (by decide) fun Hd u Kd Pd u0 u1 => ?_
        have Wd' := Wc.drawn Kd Pd
        obtain ⟨kvs, hpd⟩ := Wc.pen.here
        have kd := ndk_kp (fun zs z => away_dK.1 zs (Option.some.inj (hpd.symm.trans z))) Kd kc
        refine ⟨_, _, rfl, rfl, _, rfl, ite2 (fun _ => ?_) (fun _ => ?_)⟩
        · -- new
          refine pick (xs := [.int 1, .int 5, .int 3999]) (ea_cons ev_c (ea_cons ev_c (ea_cons ev_c ea_nil))) rfl Wd'.pen (by omega) rfl (by decide) (by decide) fun He x hx Ke Pe => ?_
          obtain ⟨y0, rfl, y1, y2⟩ : ∃ g : Int, x = .int g ∧ 0 ≤ g ∧ g ≤ 3999 := by
            simp only [List.mem_cons, List.not_mem_nil, or_false] at hx
            rcases hx with rfl | rfl | rfl <;> exact ⟨_, rfl, by decide, by decide⟩
          clear hx
          obtain ⟨kvs, hpd⟩ := Wd'.pen.here
          have ke := ndk_kp (fun zs z => away_dK.1 zs (Option.some.inj (hpd.symm.trans z))) Ke kd
          have We := Wd'.drawn Ke Pe
          refine take1 rfl We.pen (by omega) (by decide) (by decide) fun Hf yy Kf Pf yy0 yy1 => ?_
          obtain ⟨kvs, hpe⟩ := We.pen.here
          have kf := ndk_kp (fun zs z => away_dK.1 zs (Option.some.inj (hpe.symm.trans z))) Kf ke
          have Wf := We.drawn Kf Pf
          refine ⟨_, _, rfl, rfl, ?_⟩
          have ev : (fun (i j : Int) => V.int (i + j)) y0 yy = V.int (y0 + yy) := rfl
          rw [ev]
          have hy : Small (y0 + yy) := Small.of (by omega) (by omega)
          revert hy
          generalize y0 + yy = y
          intro hy
          have M := Wf.me b hb
          obtain ⟨⟨⟨dx, h1⟩, h2, hA⟩, ⟨ps, h3, hps⟩, ho⟩ := id M
          have hlf := Wf.le b hb
          -- keep
          refine ⟨_, rfl, mm b, dx, _, rfl, h1, mf_no _ _ (by decide +kernel) (by decide +kernel), _, rfl, _, rfl, mm b, dd b, nn b, xx b, v, .int y, key, rfl, M.1, kf, by omega, fun hno => ?_, fun ks tk ekey evv hnone => ?_⟩
          · -- nothing is stored
            refine ⟨rfl, _, rfl, ite2 (fun q => by simp at q) (fun _ => ?_)⟩
            refine s_when (b := false) (et_is (et_and (et_test (ev_op (ev_var rfl) ev_c rv_notN)) fun _ => et_test (ev_op (ev_call (ea_cons (ev_var rfl) (ea_cons (ev_var rfl) ea_nil)) fun H2 X2 Q' q E'' => ⟨LL b, v, xx b, key, rfl, M.2.1.mono X2, hA.mono X2, ndk_mono X2 kf, fun H3 X3 => q H3 X3⟩) ev_c rv_isN)) ?_) (fun q => nomatch q) (fun _ Hg Xg => ?_)
            · rcases hno with rfl | hs
              · cases (show v = .non from kf)
                rfl
              · have := look_none ho key
                rw [hs] at this
                cases hq : decide ((lookO (xx b) key).getD .non = .non) with
                | true => rw [hq] at this; cases this
                | false => rw [Bool.and_false]
            · exact ⟨xx, _, rfl, (Wf.same Xg).more (by omega) (by omega), ndk_mono Xg kf⟩
          · -- one more
            subst ekey
            obtain ⟨tk', e1, kat⟩ := id kf
            have e2 : tk' = tk := by rw [e1] at evv; cases evv; rfl
            subst e2
            subst e1
            have okx : OkX (ks, tk', V.int y) := ⟨okk ks rfl, y, rfl, hy⟩
            have Md := Wf.stored ap hb kat okx
            have Kg : Kp (dd b) Hf (upd Hf (dd b) (NdO P w (dd b) (xx b ++ [(ks, tk', V.int y)]))) := Kp.set (Kp.refl _ _)
            have kg := key_kp (fun zs z => away_nd.1 zs (Option.some.inj (h2.symm.trans z))) Kg kat
            have hAg := allk_kp h2 away_nd Kg hA
            revert Md kg hAg
            generalize upd Hf (dd b) (NdO P w (dd b) (xx b ++ [(ks, tk', V.int y)])) = Hg
            intro Md kg hAg
            refine ⟨rfl, _, rfl, ite2 (fun q => by simp at q) (fun _ => ?_)⟩
            refine s_when (b := true) (et_is (et_and (et_test (ev_op (ev_var rfl) ev_c rv_notN)) fun _ => et_test (ev_op (ev_call (ea_cons (ev_var rfl) (ea_cons (ev_var rfl) ea_nil)) fun H2 X2 Q' q E'' => ⟨LL b, .ref tk', xx b, some ks, rfl, Md.pairs.mono X2, hAg.mono X2, ⟨tk', rfl, kg.mono X2⟩, fun H3 X3 => q H3 X3⟩) ev_c rv_isN)) ?_) (fun _ Hh Xh => ?_) (fun q => nomatch q)
            · have : (lookO (xx b) (some ks)).getD .non = .non := by
                show (lookN (xx b) ks).getD .non = .non
                rw [hnone]
                rfl
              rw [this]
              rfl
            · have Mh := Md.same Xh
              obtain ⟨ps, hL, hp⟩ := id Mh.pairs
              have hpl : ps.length = (xx b).length := Paired.length hp
              refine s_appL (ys := [.ref tk', .int y]) hL (ev_var rfl) (el_lst (ea_cons (ev_var rfl) (ea_cons (ev_var rfl) ea_nil)) (by show 2 ≤ 100000; decide)) (by rw [List.length_map]; omega) fun q Hi hq Xi hqi => ?_
              have Mi := Mh.same Xi
              refine ⟨_, _, rfl, (Mi.grown ap hb Wf.le (Xi _ _ hL) (Paired.mapP hp fun _ _ e => Xi _ _ e) hqi (ne_of_none hL hq).symm).more (by omega) (Nat.le_refl _), ?_⟩
              exact ⟨tk', rfl, key_kp (fun zs z => away_refs.1 zs (Option.some.inj ((Xi _ _ hL).symm.trans z))) (Kp.set (Kp.refl _ _)) ((kg.mono Xh).mono Xi)⟩
        · exact ⟨xx, _, rfl, Wd'.more (by omega) (by omega), kd⟩
      · rintro σ' Hd ⟨xx', v12', rfl, Wd', kd⟩
        have M := Wd'.me b hb
        obtain ⟨⟨⟨dx, h1⟩, h2, hA⟩, ⟨ps, h3, hps⟩, ho⟩ := id M
        have hld := Wd'.le b hb
        have hob := (one_sub hb).1
        have hlo := Wd'.le (1 - b) hob
        have eob : (1 : Int) - (b : Int) = ((1 - b : Nat) : Int) := by omega
        -- right
        refine q_when (b := false) (et_is (et_or (et_not (et_B (b := true) (ev_call (ea_cons (ev_var rfl) (ea_cons (ev_var rfl) (ea_cons (ev_var rfl) (ea_cons (ev_op (ev_var rfl) (ev_var rfl) (rv_ixL (sq_of Wd'.nl) (atI_nat (two (f := fun j => V.int (nn j)) rfl rfl b hb)))) ea_nil)))) fun H2 X2 Q' q E'' =>
            ⟨mm b, dd b, LL b, nn b, xx' b, v, key, rfl, M.mono X2, by omega, ndk_mono X2 kd, fun H3 X3 => q H3 X3⟩))) fun _ => et_or (et_test (b := false) (ev_op ev_c (ev_var rfl) (fun H2 X2 Q' q => ⟨mm b, dx, _, rfl, X2 _ _ h1, mm b, dd b, nn b, xx' b, .non, none, rfl, (M.mono X2).1, rfl, _, rfl, q H2 (Ex.refl H2)⟩))) fun _ =>
            et_test (ev_op (x := .non) (ev_meth (ev_var rfl) h1 (mf_no _ _ (by decide +kernel) (by decide +kernel)) (ea_cons ev_c ea_nil) (fun H2 X2 Q' q E'' => ⟨mm b, dd b, nn b, xx' b, .non, none, rfl, (M.mono X2).1, rfl, q H2 (Ex.refl H2)⟩)) ev_c rv_notN)) rfl) (fun q => nomatch q) (fun _ He Xe => ?_)
        have We := Wd'.same Xe
        have M' := We.me (1 - b) hob
        have ke := ndk_mono Xe kd
        refine s_when (b := false) (et_is (et_not (et_B (b := true) (ev_call (ea_cons (ev_op (ev_var rfl) (ev_op ev_c (ev_var rfl) rv_I0) (rv_ixL (v := .ref (mm (1 - b))) (sq_of We.ml) (by rw [eob]; exact atI_nat (two (f := fun j => V.ref (mm j)) rfl rfl (1 - b) hob)))) (ea_cons (ev_op (ev_var rfl) (ev_op ev_c (ev_var rfl) rv_I0) (rv_ixL (v := .ref (LL (1 - b))) (sq_of We.kl) (by rw [eob]; exact atI_nat (two (f := fun j => V.ref (LL j)) rfl rfl (1 - b) hob)))) (ea_cons (ev_var rfl) (ea_cons (ev_op (ev_var rfl) (ev_op ev_c (ev_var rfl) rv_I0) (rv_ixL (v := .int (nn (1 - b))) (sq_of We.nl) (by rw [eob]; exact atI_nat (two (f := fun j => V.int (nn j)) rfl rfl (1 - b) hob)))) ea_nil)))) fun H2 X2 Q' q E'' =>
            ⟨mm (1 - b), dd (1 - b), LL (1 - b), nn (1 - b), xx' (1 - b), v, key, rfl, M'.mono X2, by omega, ndk_mono X2 ke, fun H3 X3 => q H3 X3⟩))) rfl) (fun q => nomatch q) (fun _ Hf Xf => ?_)
        exact ⟨xx', _, _, _, _, _, _, _, rfl, (We.same Xf).more (by omega) (Nat.le_refl _)⟩
    · rintro σ H' ⟨xx, v6, v7, v8, v9, v10, v11, v12, rfl, W⟩
      obtain ⟨⟨⟨dx, h1⟩, h2, hA⟩, ⟨ps, h3, hps⟩, ho⟩ := W.me 0 (by decide)
      obtain ⟨⟨⟨dx', g1⟩, _⟩, _⟩ := W.me 1 (by decide)
      have M := W.me 0 (by decide)
      have hl0 := W.le 0 (by decide)
      have hpl : ps.length = (xx 0).length := Paired.length hps
      refine s_ret (v := .bl true) (ev_is (ev_andV (ev_op (ev_op (ev_var rfl) ev_c (rv_ixL (v := .ref (mm 0)) (sq_of W.ml) rfl)) (ev_op (ev_var rfl) ev_c (rv_ixL (v := .ref (mm 1)) (sq_of W.ml) rfl)) (fun H2 X2 Q' q => ⟨mm 0, mm 1, dx, _, dx', _, rfl, rfl, ap.m01, X2 _ _ h1, X2 _ _ g1, q H2 (Ex.refl H2)⟩)) fun _ =>
        ev_andV (ev_op (ev_op (ev_var rfl) ev_c (rv_ixL (v := .ref (mm 0)) (sq_of W.ml) rfl)) (ev_op (ev_var rfl) ev_c (rv_ixL (v := .ref (mm 0)) (sq_of W.ml) rfl)) (fun H2 X2 Q' q => ⟨mm 0, dx, _, rfl, rfl, X2 _ _ h1, q H2 (Ex.refl H2)⟩)) fun _ =>
        ev_op (ev_cb (ea_cons (ev_op (ev_var rfl) ev_c (rv_ixL (v := .ref (mm 0)) (sq_of W.ml) rfl)) ea_nil) (fun H2 X2 Q' q => ⟨mm 0, dx, _, rfl, X2 _ _ h1, mm 0, dd 0, nn 0, xx 0, rfl, (M.mono X2).1, _, rfl, ⟨by omega, by omega⟩, q H2 (Ex.refl H2)⟩)) (ev_cb (ea_cons (ev_op (ev_var rfl) ev_c (rv_ixL (v := .ref (LL 0)) (sq_of W.kl) rfl)) ea_nil) (rc_lenL (sq_of h3))) (rv_eq rfl)) ?_) fun H2 X2 => kont _
      rw [List.length_map, hpl, decide_eq_true rfl]
      rfl
end
end K24

namespace K24
open PySem L2
theorem all_mk {l : PySem.W.OpenLaw} {w : World} {K : PySem.W.Frag} {h : Heap} {mg : Str → Option Value} {fa f0 f1 f2 f3 f4 f5 f6 f7 f8 f9 f10 f11 f12 f13 C0 : Addr} (X : K.In h) (G : h.Ns mainGlobals mg) (hfa : mg "law" = some (.ref fa))
    {od0 an0 od1 an1 od2 an2 od3 an3 od4 an4 od5 an5 od6 an6 od7 an7 od8 an8 od9 an9 od10 an10 od11 an11 od12 an12 od13 an13 : Option Addr} {sl0 sl1 sl2 sl3 sl4 sl5 sl6 sl7 sl8 sl9 sl10 sl11 sl12 sl13 : Array (Option Value)} {oc0 kV0 dc0 pm0 cd0 ct0 oc1 kV1 dc1 pm1 cd1 ct1 oc2 kV2 dc2 pm2 cd2 ct2 oc3 kV3 dc3 pm3 cd3 ct3 oc4 kV4 dc4 pm4 cd4 ct4 oc5 kV5 dc5 pm5 cd5 ct5 oc6 kV6 dc6 pm6 cd6 ct6 oc7 kV7 dc7 pm7 cd7 ct7 oc8 kV8 dc8 pm8 cd8 ct8 oc9 kV9 dc9 pm9 cd9 ct9 oc10 kV10 dc10 pm10 cd10 ct10 oc11 kV11 dc11 pm11 cd11 ct11 oc12 kV12 dc12 pm12 cd12 ct12 oc13 kV13 dc13 pm13 cd13 ct13 : Value}
    (gc0 : PySem.W.nsIn K mainGlobals "Memo" = some (some (.ref C0)))
    (a0 : PySem.W.nsIn K mainGlobals "memo_key" = some (some (.ref f0))) (l0 : K.lookup f0 = some ⟨oc0, od0, .func (PySem.W.fnOf "memo_key" "memo_key" (defArgs s_memo_key) (defBody s_memo_key) (defScope s_memo_key) .none kV0 dc0 pm0 an0 cd0 ct0), sl0⟩) (c0 : PySem.W.codeIn K cd0 "memo_key" = true) (k0 : PySem.W.keepIn K (.ref f0) = true)
    (a1 : PySem.W.findIn K (.ref C0) "__init__" = some (some (.ref f1))) (l1 : K.lookup f1 = some ⟨oc1, od1, .func (PySem.W.fnOf "__init__" "Memo.__init__" (defArgs s_Memo_init) (defBody s_Memo_init) (defScope s_Memo_init) .none kV1 dc1 pm1 an1 cd1 ct1), sl1⟩) (c1 : PySem.W.codeIn K cd1 "Memo.__init__" = true) (k1 : PySem.W.keepIn K (.ref f1) = true)
    (i1 : PySem.W.isFn K (.ref f1) = true)
    (a2 : PySem.W.findIn K (.ref C0) "__len__" = some (some (.ref f2))) (l2 : K.lookup f2 = some ⟨oc2, od2, .func (PySem.W.fnOf "__len__" "Memo.__len__" (defArgs s_Memo_len) (defBody s_Memo_len) (defScope s_Memo_len) .none kV2 dc2 pm2 an2 cd2 ct2), sl2⟩) (c2 : PySem.W.codeIn K cd2 "Memo.__len__" = true) (k2 : PySem.W.keepIn K (.ref f2) = true)
    (i2 : PySem.W.isFn K (.ref f2) = true)
    (a3 : PySem.W.findIn K (.ref C0) "__contains__" = some (some (.ref f3))) (l3 : K.lookup f3 = some ⟨oc3, od3, .func (PySem.W.fnOf "__contains__" "Memo.__contains__" (defArgs s_Memo_contains) (defBody s_Memo_contains) (defScope s_Memo_contains) .none kV3 dc3 pm3 an3 cd3 ct3), sl3⟩) (c3 : PySem.W.codeIn K cd3 "Memo.__contains__" = true) (k3 : PySem.W.keepIn K (.ref f3) = true)
    (i3 : PySem.W.isFn K (.ref f3) = true)
    (a4 : PySem.W.findIn K (.ref C0) "known" = some (some (.ref f4))) (l4 : K.lookup f4 = some ⟨oc4, od4, .func (PySem.W.fnOf "known" "Memo.known" (defArgs s_Memo_known) (defBody s_Memo_known) (defScope s_Memo_known) .none kV4 dc4 pm4 an4 cd4 ct4), sl4⟩) (c4 : PySem.W.codeIn K cd4 "Memo.known" = true) (k4 : PySem.W.keepIn K (.ref f4) = true)
    (i4 : PySem.W.isFn K (.ref f4) = true)
    (a5 : PySem.W.findIn K (.ref C0) "keep" = some (some (.ref f5))) (l5 : K.lookup f5 = some ⟨oc5, od5, .func (PySem.W.fnOf "keep" "Memo.keep" (defArgs s_Memo_keep) (defBody s_Memo_keep) (defScope s_Memo_keep) .none kV5 dc5 pm5 an5 cd5 ct5), sl5⟩) (c5 : PySem.W.codeIn K cd5 "Memo.keep" = true) (k5 : PySem.W.keepIn K (.ref f5) = true)
    (i5 : PySem.W.isFn K (.ref f5) = true)
    (a6 : PySem.W.findIn K (.ref C0) "kept" = some (some (.ref f6))) (l6 : K.lookup f6 = some ⟨oc6, od6, .func (PySem.W.fnOf "kept" "Memo.kept" (defArgs s_Memo_kept) (defBody s_Memo_kept) (defScope s_Memo_kept) .none kV6 dc6 pm6 an6 cd6 ct6), sl6⟩) (c6 : PySem.W.codeIn K cd6 "Memo.kept" = true) (k6 : PySem.W.keepIn K (.ref f6) = true)
    (i6 : PySem.W.isFn K (.ref f6) = true)
    (a7 : PySem.W.nsIn K mainGlobals "_law_pen" = some (some (.ref f7))) (l7 : K.lookup f7 = some ⟨oc7, od7, .func (PySem.W.fnOf "_law_pen" "_law_pen" (defArgs s_pen) (defBody s_pen) (defScope s_pen) .none kV7 dc7 pm7 an7 cd7 ct7), sl7⟩) (c7 : PySem.W.codeIn K cd7 "_law_pen" = true) (k7 : PySem.W.keepIn K (.ref f7) = true)
    (a8 : PySem.W.nsIn K mainGlobals "_law_take" = some (some (.ref f8))) (l8 : K.lookup f8 = some ⟨oc8, od8, .func (PySem.W.fnOf "_law_take" "_law_take" (defArgs s_take) (defBody s_take) (defScope s_take) .none kV8 dc8 pm8 an8 cd8 ct8), sl8⟩) (c8 : PySem.W.codeIn K cd8 "_law_take" = true) (k8 : PySem.W.keepIn K (.ref f8) = true)
    (a9 : PySem.W.nsIn K mainGlobals "_law_number" = some (some (.ref f9))) (l9 : K.lookup f9 = some ⟨oc9, od9, .func (PySem.W.fnOf "_law_number" "_law_number" (defArgs s_number) (defBody s_number) (defScope s_number) .none kV9 dc9 pm9 an9 cd9 ct9), sl9⟩) (c9 : PySem.W.codeIn K cd9 "_law_number" = true) (k9 : PySem.W.keepIn K (.ref f9) = true)
    (a10 : PySem.W.nsIn K mainGlobals "_law_token" = some (some (.ref f10))) (l10 : K.lookup f10 = some ⟨oc10, od10, .func (PySem.W.fnOf "_law_token" "_law_token" (defArgs s_token) (defBody s_token) (defScope s_token) .none kV10 dc10 pm10 an10 cd10 ct10), sl10⟩) (c10 : PySem.W.codeIn K cd10 "_law_token" = true) (k10 : PySem.W.keepIn K (.ref f10) = true)
    (a11 : PySem.W.nsIn K mainGlobals "_law_found" = some (some (.ref f11))) (l11 : K.lookup f11 = some ⟨oc11, od11, .func (PySem.W.fnOf "_law_found" "_law_found" (defArgs s_found) (defBody s_found) (defScope s_found) .none kV11 dc11 pm11 an11 cd11 ct11), sl11⟩) (c11 : PySem.W.codeIn K cd11 "_law_found" = true) (k11 : PySem.W.keepIn K (.ref f11) = true)
    (a12 : PySem.W.nsIn K mainGlobals "_law_right" = some (some (.ref f12))) (l12 : K.lookup f12 = some ⟨oc12, od12, .func (PySem.W.fnOf "_law_right" "_law_right" (defArgs s_right) (defBody s_right) (defScope s_right) .none kV12 dc12 pm12 an12 cd12 ct12), sl12⟩) (c12 : PySem.W.codeIn K cd12 "_law_right" = true) (k12 : PySem.W.keepIn K (.ref f12) = true)
    (a13 : PySem.W.nsIn K mainGlobals "law" = some (some (.ref f13))) (l13 : K.lookup f13 = some ⟨oc13, od13, .func (PySem.W.fnOf "law" "law" (defArgs s_law) (defBody s_law) (defScope s_law) .none kV13 dc13 pm13 an13 cd13 ct13), sl13⟩) (c13 : PySem.W.codeIn K cd13 "law" = true) (k13 : PySem.W.keepIn K (.ref f13) = true)
    (pg0 : PySem.W.plainGet K C0 Str.empty = true)
    (hd0 : PySem.W.hasDictIn K C0 = true)
    (po0 : PySem.W.plainOver K C0 = true)
    (sa0 : PySem.W.findIn K (.ref C0) "__setattr__" = some (some (.builtin "object.__setattr__")))
    (mk0 : PySem.W.makesIn K C0 = true)
    (kc0 : PySem.W.keepIn K (.ref C0) = true)
    (na0_0 : PySem.W.findIn K (.ref C0) "number" = some none)
    (na0_1 : PySem.W.findIn K (.ref C0) "store" = some none)
    (xid_Memo_0 : PySem.W.mroIn K C0 (.type "object") = some true)
    (xid_Memo_1 : PySem.W.findIn K (.ref C0) "__eq__" = some (some (.builtin "object.__eq__")))
    (xid_Memo_2 : PySem.W.findIn K (.ref C0) "__ne__" = some (some (.builtin "object.__ne__")))
    (z0 : PySem.W.nsIn K mainGlobals "list" = some none)
    (z1 : PySem.W.nsIn K mainGlobals "range" = some none)
    (z2 : PySem.W.nsIn K mainGlobals "len" = some none)
    (z3 : PySem.W.nsIn K mainGlobals "int" = some none)
    (z4 : PySem.W.nsIn K mainGlobals "isinstance" = some none)
    (z5 : PySem.W.nsIn K mainGlobals "bool" = some none)
    (z6 : PySem.W.nsIn K mainGlobals "repr" = some none)
    (z7 : PySem.W.nsIn K mainGlobals "tuple" = some none)
    : ∃ fd : FuncData, (∀ (s : Shared) (v : Value), BindsTo s fd ⟨[v], []⟩ [("_law_script", v)]) ∧ ∀ base : Heap, K.In base → base.Ns mainGlobals mg → Way.FnG l.prog w K mg base CX0 8 fa fd ["_law_script"] (spLaw K) := by
  have e := hfa.symm.trans (PySem.W.mg_of X G a13)
  cases e
  let T : Txt K mg := {
    f_memo_key := f0, d_memo_key := _, F_memo_key := fun_mk (st := s_memo_key) l0 c0 k0, B_memo_key := (fun_mk (st := s_memo_key) l0 c0 k0).binds (ps := P_memo_key) (fun _ _ _ _ _ _ us hl => match us, hl with | [_, _, _, _], _ => rfl), g_memo_key := PySem.W.mg_of X G a0,
    f_Memo_init := f1, d_Memo_init := _, F_Memo_init := fun_mk (st := s_Memo_init) l1 c1 k1, B_Memo_init := (fun_mk (st := s_Memo_init) l1 c1 k1).binds (ps := P_Memo_init) (fun _ _ _ _ _ _ us hl => match us, hl with | [_, _], _ => rfl),
    f_Memo_len := f2, d_Memo_len := _, F_Memo_len := fun_mk (st := s_Memo_len) l2 c2 k2, B_Memo_len := (fun_mk (st := s_Memo_len) l2 c2 k2).binds (ps := P_Memo_len) (fun _ _ _ _ _ _ us hl => match us, hl with | [_], _ => rfl),
    f_Memo_contains := f3, d_Memo_contains := _, F_Memo_contains := fun_mk (st := s_Memo_contains) l3 c3 k3, B_Memo_contains := (fun_mk (st := s_Memo_contains) l3 c3 k3).binds (ps := P_Memo_contains) (fun _ _ _ _ _ _ us hl => match us, hl with | [_, _], _ => rfl),
    f_Memo_known := f4, d_Memo_known := _, F_Memo_known := fun_mk (st := s_Memo_known) l4 c4 k4, B_Memo_known := (fun_mk (st := s_Memo_known) l4 c4 k4).binds (ps := P_Memo_known) (fun _ _ _ _ _ _ us hl => match us, hl with | [_, _], _ => rfl),
    f_Memo_keep := f5, d_Memo_keep := _, F_Memo_keep := fun_mk (st := s_Memo_keep) l5 c5 k5, B_Memo_keep := (fun_mk (st := s_Memo_keep) l5 c5 k5).binds (ps := P_Memo_keep) (fun _ _ _ _ _ _ us hl => match us, hl with | [_, _, _], _ => rfl),
    f_Memo_kept := f6, d_Memo_kept := _, F_Memo_kept := fun_mk (st := s_Memo_kept) l6 c6 k6, B_Memo_kept := (fun_mk (st := s_Memo_kept) l6 c6 k6).binds (ps := P_Memo_kept) (fun _ _ _ _ _ _ us hl => match us, hl with | [_], _ => rfl),
    f_pen := f7, d_pen := _, F_pen := fun_mk (st := s_pen) l7 c7 k7, B_pen := (fun_mk (st := s_pen) l7 c7 k7).binds (ps := P_pen) (fun _ _ _ _ _ _ us hl => match us, hl with | [_], _ => rfl), g_pen := PySem.W.mg_of X G a7,
    f_take := f8, d_take := _, F_take := fun_mk (st := s_take) l8 c8 k8, B_take := (fun_mk (st := s_take) l8 c8 k8).binds (ps := P_take) (fun _ _ _ _ _ _ us hl => match us, hl with | [_, _], _ => rfl), g_take := PySem.W.mg_of X G a8,
    f_number := f9, d_number := _, F_number := fun_mk (st := s_number) l9 c9 k9, B_number := (fun_mk (st := s_number) l9 c9 k9).binds (ps := P_number) (fun _ _ _ _ _ _ us hl => match us, hl with | [_], _ => rfl), g_number := PySem.W.mg_of X G a9,
    f_token := f10, d_token := _, F_token := fun_mk (st := s_token) l10 c10 k10, B_token := (fun_mk (st := s_token) l10 c10 k10).binds (ps := P_token) (fun _ _ _ _ _ _ us hl => match us, hl with | [_], _ => rfl), g_token := PySem.W.mg_of X G a10,
    f_found := f11, d_found := _, F_found := fun_mk (st := s_found) l11 c11 k11, B_found := (fun_mk (st := s_found) l11 c11 k11).binds (ps := P_found) (fun _ _ _ _ _ _ us hl => match us, hl with | [_, _], _ => rfl), g_found := PySem.W.mg_of X G a11,
    f_right := f12, d_right := _, F_right := fun_mk (st := s_right) l12 c12 k12, B_right := (fun_mk (st := s_right) l12 c12 k12).binds (ps := P_right) (fun _ _ _ _ _ _ us hl => match us, hl with | [_, _, _, _], _ => rfl), g_right := PySem.W.mg_of X G a12,
    f_law := fa, d_law := _, F_law := fun_mk (st := s_law) l13 c13 k13, B_law := (fun_mk (st := s_law) l13 c13 k13).binds (ps := P_law) (fun _ _ _ _ _ _ us hl => match us, hl with | [_], _ => rfl), g_law := PySem.W.mg_of X G a13,
    C_Memo := C0, g_Memo := PySem.W.mg_of X G gc0, cl_Memo := ⟨pg0, hd0, po0, sa0⟩,
    M_Memo := ⟨mk0, a1, i1, kc0⟩,
    na_Memo_number := na0_0,
    na_Memo_store := na0_1,
    m_Memo_len := ⟨a2, i2, k2⟩,
    m_Memo_contains := ⟨a3, i3, k3⟩,
    m_Memo_known := ⟨a4, i4, k4⟩,
    m_Memo_keep := ⟨a5, i5, k5⟩,
    m_Memo_kept := ⟨a6, i6, k6⟩,
    id_Memo := ⟨xid_Memo_0, xid_Memo_1, xid_Memo_2⟩,
    b_list := PySem.W.mg_none_of X G z0,
    b_range := PySem.W.mg_none_of X G z1,
    b_len := PySem.W.mg_none_of X G z2,
    b_int := PySem.W.mg_none_of X G z3,
    b_isinstance := PySem.W.mg_none_of X G z4,
    b_bool := PySem.W.mg_none_of X G z5,
    b_repr := PySem.W.mg_none_of X G z6,
    b_tuple := PySem.W.mg_none_of X G z7 }
  exact ⟨PySem.W.fnOf "law" "law" (defArgs s_law) (defBody s_law) (defScope s_law) .none kV13 dc13 pm13 an13 cd13 ct13, fun s v => .of_eq rfl, fun base _ _ => ok_law T⟩
theorem walk {l : PySem.W.OpenLaw} {q : Program} {loose : List Str} {XP : (Str → Option Value) → Heap → Prop} {YP : World → Heap → Prop} {d : DefRec} {K : Params → PySem.W.Frag} (hn : l.most = some 63) (hdf : d.params.defaults = [])
    (hY : ∀ (w : World) (h : Heap), YP w h → (K w.params).In h)
    (F : ∀ (w : World) (mg : Str → Option Value) (fa : Addr) (h : Heap), (K w.params).In h → h.Ns mainGlobals mg → mg d.name = some (.ref fa) →
      ∃ fd : FuncData, (∀ (s : Shared) (u : Value), BindsTo s fd ⟨[u], []⟩ [("_law_script", u)]) ∧ ∀ base : Heap, (K w.params).In base → base.Ns mainGlobals mg → Way.FnG l.prog w (K w.params) mg base CX0 8 fa fd ["_law_script"] (spLaw (K w.params))) :
    PySem.W.WalkO q loose XP YP l.row.toRowW d [] (fun f vs => PySem.call f vs) :=
  Way.walk_ofG (n := 63) (k := 8) (x := "_law_script") (CX := fun _ => CX0) (sp := fun w => spLaw (K w.params)) hn (by decide) hdf ⟨rfl, by decide, by decide⟩ hY F (fun _ _ a ns hl _ hS => ⟨a, ns, rfl, hS, hl, fun _ => rfl⟩) fun _ _ _ _ _ z => z
end K24

open PySem PySem.W PyProof.Rows in
set_option maxRecDepth 100000 in
set_option maxHeartbeats 0 in
theorem PySem.Challenge.cw_waypairs_k24_memos_holds : PySem.Challenge.rw_waypairs_k24_memos.Holds := by
  w_on; o_law; k_head; (case hw => w_witness2)
  k_fill
  refine K24.walk (l := PySem.Challenge.rw_waypairs_k24_memos) rfl rfl (fun w h Y => PySem.W.kIn_of Y) ?F
  case F =>
    intro w mg fa h KX G hmg
    refine' K24.all_mk KX G hmg ?gc0 ?a0 ?l0 ?c0 ?k0 ?a1 ?l1 ?c1 ?k1 ?i1 ?a2 ?l2 ?c2 ?k2 ?i2 ?a3 ?l3 ?c3 ?k3 ?i3 ?a4 ?l4 ?c4 ?k4 ?i4 ?a5 ?l5 ?c5 ?k5 ?i5 ?a6 ?l6 ?c6 ?k6 ?i6 ?a7 ?l7 ?c7 ?k7 ?a8 ?l8 ?c8 ?k8 ?a9 ?l9 ?c9 ?k9 ?a10 ?l10 ?c10 ?k10 ?a11 ?l11 ?c11 ?k11 ?a12 ?l12 ?c12 ?k12 ?a13 ?l13 ?c13 ?k13 ?pg0 ?hd0 ?po0 ?sa0 ?mk0 ?kc0 ?na0_0 ?na0_1 ?xid_Memo_0 ?xid_Memo_1 ?xid_Memo_2 ?z0 ?z1 ?z2 ?z3 ?z4 ?z5 ?z6 ?z7
    (case gc0 => k_is)
    (case a0 => k_is)
    (case l0 => k_is)
    (case c0 => k_is)
    (case k0 => k_is)
    (case a1 => k_is)
    (case l1 => k_is)
    (case c1 => k_is)
    (case k1 => k_is)
    (case i1 => k_is)
    (case a2 => k_is)
    (case l2 => k_is)
    (case c2 => k_is)
    (case k2 => k_is)
    (case i2 => k_is)
    (case a3 => k_is)
    (case l3 => k_is)
    (case c3 => k_is)
    (case k3 => k_is)
    (case i3 => k_is)
    (case a4 => k_is)
    (case l4 => k_is)
    (case c4 => k_is)
    (case k4 => k_is)
    (case i4 => k_is)
    (case a5 => k_is)
    (case l5 => k_is)
    (case c5 => k_is)
    (case k5 => k_is)
    (case i5 => k_is)
    (case a6 => k_is)
    (case l6 => k_is)
    (case c6 => k_is)
    (case k6 => k_is)
    (case i6 => k_is)
    (case a7 => k_is)
    (case l7 => k_is)
    (case c7 => k_is)
    (case k7 => k_is)
    (case a8 => k_is)
    (case l8 => k_is)
    (case c8 => k_is)
    (case k8 => k_is)
    (case a9 => k_is)
    (case l9 => k_is)
    (case c9 => k_is)
    (case k9 => k_is)
    (case a10 => k_is)
    (case l10 => k_is)
    (case c10 => k_is)
    (case k10 => k_is)
    (case a11 => k_is)
    (case l11 => k_is)
    (case c11 => k_is)
    (case k11 => k_is)
    (case a12 => k_is)
    (case l12 => k_is)
    (case c12 => k_is)
    (case k12 => k_is)
    (case a13 => k_is)
    (case l13 => k_is)
    (case c13 => k_is)
    (case k13 => k_is)
    (case pg0 => k_is)
    (case hd0 => k_is)
    (case po0 => k_is)
    (case sa0 => k_is)
    (case mk0 => k_is)
    (case kc0 => k_is)
    (case na0_0 => k_is)
    (case na0_1 => k_is)
    (case xid_Memo_0 => k_is)
    (case xid_Memo_1 => k_is)
    (case xid_Memo_2 => k_is)
    (case z0 => k_is)
    (case z1 => k_is)
    (case z2 => k_is)
    (case z3 => k_is)
    (case z4 => k_is)
    (case z5 => k_is)
    (case z6 => k_is)
    (case z7 => k_is)
#print axioms PySem.Challenge.cw_waypairs_k24_memos_holds
